import PyProof.Rows.All
import Wide.All
import OpenK.AllK
import Wide.FinOn
import HandS.ForMost
import HandS.Walk
import HandS.Wide
import HandS.Deep
import HandS.Evl
import HandS.IsInst
import HandS.TupAny
import HandS.TupMul
import KE.GoesEnum
import KE.KTupSum
import HandS.NoneIn
import HandS.Head0
import HandS.Head1
import HandS.Head2
import HandS.HeadEnd
import HandS.HeadHook1
import HandS.HeadHook2
import Lean
import HandS.Exc
import HandS.TryOnly
import HandS.ExcOwn
import HandS.WordsExc
import HandS.ExcIs
import PyProof.Rows.CountFlat
import KE.KDictKeyed
import KE.KDictLaw
import HandS.Conv
import HandS.Style
import HandS.Set
import HandS.SetFor
import HandS.Strs
import HandS.SortInts
import HandS.Flow
import KE.KDictDisplayH
import HandS.WordsDict
import HandS.Small
import HandS.More
import HandS.Dict
import HandS.TupSets
import PySem.Challenge.RW_tipwell_k27_whole_best_watch
set_option Elab.async false
set_option linter.all false
set_option maxRecDepth 100000
set_option maxHeartbeats 4000000
/-! T1: worlds (frozen heap, owned chunks), representations, mirrors, judgements. -/
namespace T
open PySem L2
abbrev Same := L2.Same
abbrev Ch := List (Addr × HO)

/-! ### the world: F frozen, O owned -/
structure Wd (F H : Hp) (O : Ch) : Prop where
  sub : Same F H
  own : ∀ p ∈ O, H p.1 = some p.2 ∧ F p.1 = none
  nd : (O.map Prod.fst).Nodup
section
variable {F H F' H' : Hp} {O O' A B : Ch} {p : Addr} {o o' : HO}
theorem Same.upd_new (np : H p = none) : Same H (upd H p o) := fun a u e => by
  rw [upd_ne (ne_of_none e np)]; exact e
theorem Wd.perm (W : Wd F H O) (h : O.Perm O') : Wd F H O' :=
  ⟨W.sub, fun q hq => W.own q (h.mem_iff.mpr hq), (h.map Prod.fst).nodup_iff.mp W.nd⟩
theorem Wd.sublist (W : Wd F H O) (h : O'.Sublist O) : Wd F H O' :=
  ⟨W.sub, fun q hq => W.own q (h.subset hq), (h.map Prod.fst).nodup W.nd⟩
theorem Wd.left (W : Wd F H (A ++ B)) : Wd F H A := W.sublist (List.sublist_append_left A B)
theorem Wd.right (W : Wd F H (A ++ B)) : Wd F H B := W.sublist (List.sublist_append_right A B)
theorem Wd.nofree (W : Wd F H O) (np : H p = none) : ∀ q ∈ O, q.1 ≠ p := fun q hq e => by
  have h := (W.own q hq).1
  rw [e, np] at h; cases h
theorem Wd.fnone (W : Wd F H O) (np : H p = none) : F p = none := by
  cases h : F p with
  | none => rfl
  | some u => have := W.sub _ _ h; rw [np] at this; cases this
/-- a new frozen object -/
theorem Wd.newF (W : Wd F H O) (np : H p = none) : Wd (upd F p o) (upd H p o) O where
  sub := fun a u e => by
    by_cases h : a = p
    · subst h; rw [upd_same] at e ⊢; exact e
    · rw [upd_ne h] at e ⊢; exact W.sub _ _ e
  own := fun q hq => by
    have h := W.nofree np q hq
    rw [upd_ne h, upd_ne h]; exact W.own q hq
  nd := W.nd
theorem Wd.sameF (W : Wd F H O) (np : H p = none) : Same F (upd F p o) := Same.upd_new (W.fnone np)
/-- a new object that nobody knows of -/
theorem Wd.junk (W : Wd F H O) (np : H p = none) : Wd F (upd H p o) O where
  sub := W.sub.trans (Same.upd_new np)
  own := fun q hq => by rw [upd_ne (W.nofree np q hq)]; exact W.own q hq
  nd := W.nd
/-- a new owned object -/
theorem Wd.newO (W : Wd F H O) (np : H p = none) : Wd F (upd H p o) ((p, o) :: O) where
  sub := W.sub.trans (Same.upd_new np)
  own := fun q hq => by
    rcases List.mem_cons.mp hq with e | hq
    · subst e; exact ⟨upd_same, W.fnone np⟩
    · rw [upd_ne (W.nofree np q hq)]; exact W.own q hq
  nd := by
    rw [List.map_cons, List.nodup_cons]
    refine ⟨fun hm => ?_, W.nd⟩
    obtain ⟨q, hq, e⟩ := List.mem_map.mp hm
    exact W.nofree np q hq e
theorem Wd.hd (W : Wd F H ((p, o) :: O)) : H p = some o := (W.own (p, o) List.mem_cons_self).1
theorem Wd.hdF (W : Wd F H ((p, o) :: O)) : F p = none := (W.own (p, o) List.mem_cons_self).2
/-- the first owned object changes -/
theorem Wd.set (W : Wd F H ((p, o) :: O)) : Wd F (upd H p o') ((p, o') :: O) where
  sub := fun a u e => by
    have h : a ≠ p := fun q => by subst q; rw [W.hdF] at e; cases e
    rw [upd_ne h]; exact W.sub _ _ e
  own := fun q hq => by
    rcases List.mem_cons.mp hq with e | hq
    · subst e; exact ⟨upd_same, W.hdF⟩
    · have h : q.1 ≠ p := fun e => by
        have := W.nd
        rw [List.map_cons, List.nodup_cons] at this
        exact this.1 (List.mem_map.mpr ⟨q, hq, e⟩)
      rw [upd_ne h]; exact W.own q (List.mem_cons_of_mem _ hq)
  nd := W.nd
/-- the first owned object is frozen -/
theorem Wd.frz (W : Wd F H ((p, o) :: O)) : Wd (upd F p o) H O where
  sub := fun a u e => by
    by_cases h : a = p
    · subst h; rw [upd_same] at e; cases e; exact W.hd
    · rw [upd_ne h] at e; exact W.sub _ _ e
  own := fun q hq => by
    have h : q.1 ≠ p := fun e => by
      have := W.nd
      rw [List.map_cons, List.nodup_cons] at this
      exact this.1 (List.mem_map.mpr ⟨q, hq, e⟩)
    rw [upd_ne h]; exact W.own q (List.mem_cons_of_mem _ hq)
  nd := by
    have := W.nd
    rw [List.map_cons, List.nodup_cons] at this
    exact this.2
theorem Wd.frzS (W : Wd F H ((p, o) :: O)) : Same F (upd F p o) := Same.upd_new W.hdF
theorem Wd.tl (W : Wd F H ((p, o) :: O)) : Wd F H O := W.sublist (List.sublist_cons_self _ _)
end

/-! ### how a value stands for data -/
structure Rl (α : Type) where
  r : Hp → V → α → Prop
  mono : ∀ {F F' : Hp} {v : V} {x : α}, Same F F' → r F v x → r F' v x
/-- a row of values -/
structure Ar (α : Type) where
  r : Hp → List V → α → Prop
  mono : ∀ {F F' : Hp} {v : List V} {x : α}, Same F F' → r F v x → r F' v x
def rInt : Rl Int := ⟨fun _ v i => v = .int i, fun _ h => h⟩
def rBool : Rl Bool := ⟨fun _ v b => v = .bl b, fun _ h => h⟩
def rStr : Rl Str := ⟨fun _ v b => v = .str b, fun _ h => h⟩
def rNone : Rl Unit := ⟨fun _ v _ => v = .non, fun _ h => h⟩
/-- this very value -/
def rV (v0 : V) : Rl Unit := ⟨fun _ v _ => v = v0, fun _ h => h⟩
def rOpt {α : Type} (R : Rl α) : Rl (Option α) where
  r := fun F v x => match x with
    | none => v = .non
    | some y => R.r F v y
  mono := fun {F F' v x} s h => by
    cases x with
    | none => exact h
    | some y => exact R.mono s h
theorem paired_mono {α : Type} {R R' : V → α → Prop} (h : ∀ v x, R v x → R' v x) : ∀ {vs : List V} {xs : List α}, Paired R vs xs → Paired R' vs xs
  | _, _, .nil => .nil
  | _, _, .cons r t => .cons (h _ _ r) (paired_mono h t)
/-- a tuple of things alike, of any length -/
def rTup {α : Type} (R : Rl α) : Rl (List α) where
  r := fun F v xs => ∃ p vs, v = .ref p ∧ F p = some (.tup vs) ∧ Paired (R.r F) vs xs
  mono := fun s ⟨p, vs, e, h, r⟩ => ⟨p, vs, e, s _ _ h, paired_mono (fun _ _ => R.mono s) r⟩
/-- a list that nobody changes -/
def rLst {α : Type} (R : Rl α) : Rl (List α) where
  r := fun F v xs => ∃ p vs, v = .ref p ∧ F p = some (.lst vs) ∧ Paired (R.r F) vs xs
  mono := fun s ⟨p, vs, e, h, r⟩ => ⟨p, vs, e, s _ _ h, paired_mono (fun _ _ => R.mono s) r⟩
def arNil : Ar Unit := ⟨fun _ vs _ => vs = [], fun _ h => h⟩
def arOne {α : Type} (R : Rl α) : Ar α where
  r := fun F vs x => ∃ v, vs = [v] ∧ R.r F v x
  mono := fun s ⟨v, e, r⟩ => ⟨v, e, R.mono s r⟩
def arC {α β : Type} (R : Rl α) (T : Ar β) : Ar (α × β) where
  r := fun F vs x => ∃ v r, vs = v :: r ∧ R.r F v x.1 ∧ T.r F r x.2
  mono := fun s ⟨v, r, e, h, t⟩ => ⟨v, r, e, R.mono s h, T.mono s t⟩
/-- a row of things alike -/
def arL {α : Type} (R : Rl α) : Ar (List α) where
  r := fun F vs xs => Paired (R.r F) vs xs
  mono := fun s r => paired_mono (fun _ _ => R.mono s) r
/-- a tuple of so many things -/
def rTh {α : Type} (T : Ar α) : Rl α where
  r := fun F v x => ∃ p vs, v = .ref p ∧ F p = some (.tup vs) ∧ T.r F vs x
  mono := fun s ⟨p, vs, e, h, r⟩ => ⟨p, vs, e, s _ _ h, T.mono s r⟩
/-- a list of so many things, that nobody changes -/
def rLh {α : Type} (T : Ar α) : Rl α where
  r := fun F v x => ∃ p vs, v = .ref p ∧ F p = some (.lst vs) ∧ T.r F vs x
  mono := fun s ⟨p, vs, e, h, r⟩ => ⟨p, vs, e, s _ _ h, T.mono s r⟩
/-- its data, for == -/
structure RD {α : Type} (R : Rl α) where
  d : α → PyData
  dp : ∀ {K : PySem.W.Frag} {F : Hp} {v : V} {x : α}, R.r F v x → Dp K F v (d x)
structure AD {α : Type} (R : Ar α) where
  d : α → List PyData
  dp : ∀ {K : PySem.W.Frag} {F : Hp} {v : List V} {x : α}, R.r F v x → DpAll K F v (d x)
theorem dp_all {α : Type} {K : PySem.W.Frag} {F : Hp} {R : V → α → Prop} (d : α → PyData) (h : ∀ v x, R v x → Dp K F v (d x)) : ∀ {vs : List V} {xs : List α}, Paired R vs xs → DpAll K F vs (xs.map d)
  | _, _, .nil => .nil
  | _, _, .cons r t => .cons (h _ _ r) (dp_all d h t)
def dInt : RD rInt := ⟨.int, fun h => by cases h; exact .int _⟩
def dBool : RD rBool := ⟨.bool, fun h => by cases h; exact .bl _⟩
def dStr : RD rStr := ⟨.str, fun h => by cases h; exact .str _⟩
def dNone : RD rNone := ⟨fun _ => .none, fun h => by cases h; exact .non⟩
def dOpt {α : Type} {R : Rl α} (D : RD R) : RD (rOpt R) where
  d := fun x => match x with
    | none => .none
    | some y => D.d y
  dp := fun {K F v x} h => by
    cases x with
    | none => cases (show v = .non from h); exact .non
    | some y => exact D.dp h
def dTup {α : Type} {R : Rl α} (D : RD R) : RD (rTup R) := ⟨fun xs => .tuple (xs.map D.d), fun ⟨_, _, e, h, r⟩ => by subst e; exact .tup (SqT.of h) (dp_all D.d (fun _ _ => D.dp) r)⟩
def dLst {α : Type} {R : Rl α} (D : RD R) : RD (rLst R) := ⟨fun xs => .list (xs.map D.d), fun ⟨_, _, e, h, r⟩ => by subst e; exact .lst (SqL.of h) (dp_all D.d (fun _ _ => D.dp) r)⟩
def daNil : AD arNil := ⟨fun _ => [], fun h => by cases h; exact .nil⟩
def daOne {α : Type} {R : Rl α} (D : RD R) : AD (arOne R) := ⟨fun x => [D.d x], fun ⟨_, e, r⟩ => by subst e; exact .cons (D.dp r) .nil⟩
def daC {α β : Type} {R : Rl α} {T : Ar β} (D : RD R) (E : AD T) : AD (arC R T) := ⟨fun x => D.d x.1 :: E.d x.2, fun ⟨_, _, e, h, t⟩ => by subst e; exact .cons (D.dp h) (E.dp t)⟩
def daL {α : Type} {R : Rl α} (D : RD R) : AD (arL R) := ⟨fun xs => xs.map D.d, fun r => dp_all D.d (fun _ _ => D.dp) r⟩
def dTh {α : Type} {T : Ar α} (D : AD T) : RD (rTh T) := ⟨fun x => .tuple (D.d x), fun ⟨_, _, e, h, r⟩ => by subst e; exact .tup (SqT.of h) (D.dp r)⟩
def dLh {α : Type} {T : Ar α} (D : AD T) : RD (rLh T) := ⟨fun x => .list (D.d x), fun ⟨_, _, e, h, r⟩ => by subst e; exact .lst (SqL.of h) (D.dp r)⟩

/-! ### owned state -/
structure Ow (S : Type) where
  o : Hp → S → Ch → Prop
  mono : ∀ {F F' : Hp} {s : S} {c : Ch}, Same F F' → o F s c → o F' s c
def emp : Ow Unit := ⟨fun _ _ c => c = [], fun _ h => h⟩
def star {S T : Type} (A : Ow S) (B : Ow T) : Ow (S × T) where
  o := fun F s c => ∃ c1 c2, c = c1 ++ c2 ∧ A.o F s.1 c1 ∧ B.o F s.2 c2
  mono := fun h ⟨c1, c2, e, a, b⟩ => ⟨c1, c2, e, A.mono h a, B.mono h b⟩
/-- the list at l, owned -/
def oLst {α : Type} (R : Rl α) (v : V) : Ow (List α) where
  o := fun F xs c => ∃ l vs, v = .ref l ∧ c = [(l, .lst vs)] ∧ Paired (R.r F) vs xs
  mono := fun s ⟨l, vs, e, h, r⟩ => ⟨l, vs, e, h, paired_mono (fun _ _ => R.mono s) r⟩

/-! ### mirrors -/
abbrev M (S β : Type) := S → Option (β × S)
def ret {S β : Type} (b : β) : M S β := fun s => some (b, s)
def bnd {S α γ : Type} (m : M S α) (f : α → S → Option γ) : S → Option γ := fun s => (m s).bind fun p => f p.1 p.2
def lft {S β : Type} (o : Option β) : M S β := fun s => o.map fun b => (b, s)
def zm {S T β : Type} (g : S → T) (p : S → T → S) (m : M T β) : M S β := fun s => (m (g s)).map fun q => (q.1, p s q.2)
def rn {β : Type} (m : M Unit β) : Option β := (m ()).map Prod.fst
def mp {S α β : Type} (f : α → M S β) : List α → M S (List β)
  | [] => ret []
  | x :: xs => bnd (f x) fun y => bnd (mp f xs) fun ys => ret (y :: ys)
def mpf {S α β : Type} (p : α → M S Bool) (f : α → M S β) : List α → M S (List β)
  | [] => ret []
  | x :: xs => bnd (p x) fun b => bif b then bnd (f x) (fun y => bnd (mpf p f xs) fun ys => ret (y :: ys)) else mpf p f xs
def fd {S Z α : Type} (f : Z → α → M S Z) : Z → List α → M S Z
  | z, [] => ret z
  | z, x :: xs => bnd (f z x) fun z' => fd f z' xs
/-- on with z, or back with b -/
inductive Fl (Z β : Type) | nx (z : Z) | rt (b : β)
/-- a loop whose turns may return -/
def fdE {S Z α ρ : Type} (f : Z → α → S → Option (Fl (Z × S) ρ)) : Z → List α → S → Option (Fl (Z × S) ρ)
  | z, [], s => some (.nx (z, s))
  | z, x :: xs, s => (f z x s).bind fun r => match r with
    | .nx q => fdE f q.1 xs q.2
    | .rt b => some (.rt b)
def fthn {S Z ρ : Type} (m : S → Option (Fl (Z × S) ρ)) (h : Z → S → Option ρ) : S → Option ρ := fun s => (m s).bind fun r => match r with
  | .nx q => h q.1 q.2
  | .rt b => some b
def fthnF {S Z ρ κ : Type} (m : S → Option (Fl (Z × S) ρ)) (h : Z → S → Option (Fl κ ρ)) : S → Option (Fl κ ρ) := fun s => (m s).bind fun r => match r with
  | .nx q => h q.1 q.2
  | .rt b => some (.rt b)
def whl {S Z : Type} (c : Z → M S Bool) (f : Z → M S Z) : Nat → Z → M S Z
  | 0, _ => fun _ => none
  | n + 1, z => bnd (c z) fun b => bif b then bnd (f z) (whl c f n) else ret z
def whlE {S Z ρ : Type} (c : Z → M S Bool) (f : Z → S → Option (Fl (Z × S) ρ)) : Nat → Z → S → Option (Fl (Z × S) ρ)
  | 0, _ => fun _ => none
  | n + 1, z => bnd (c z) fun b => bif b then (fun s => (f z s).bind fun r => match r with
    | .nx q => whlE c f n q.1 q.2
    | .rt b => some (.rt b)) else fun s => some (.nx (z, s))
theorem bnd_some {S α γ : Type} {m : M S α} {f : α → S → Option γ} {s : S} {b : γ} (h : bnd m f s = some b) : ∃ a s1, m s = some (a, s1) ∧ f a s1 = some b := by
  unfold bnd at h
  cases e : m s with
  | none => rw [e] at h; cases h
  | some q => rw [e] at h; exact ⟨q.1, q.2, rfl, h⟩
theorem lft_some {S β : Type} {o : Option β} {s s' : S} {b : β} (h : lft o s = some (b, s')) : o = some b ∧ s' = s := by
  unfold lft at h
  cases e : o with
  | none => rw [e] at h; cases h
  | some q => rw [e] at h; cases h; exact ⟨rfl, rfl⟩
theorem ret_some {S β : Type} {a b : β} {s s' : S} (h : ret a s = some (b, s')) : b = a ∧ s' = s := by
  cases h; exact ⟨rfl, rfl⟩
theorem zm_some {S T β : Type} {g : S → T} {p : S → T → S} {m : M T β} {s s' : S} {b : β} (h : zm g p m s = some (b, s')) : ∃ t, m (g s) = some (b, t) ∧ s' = p s t := by
  unfold zm at h
  cases e : m (g s) with
  | none => rw [e] at h; cases h
  | some q => rw [e] at h; cases h; exact ⟨_, rfl, rfl⟩
/-! ### a part of the owned state -/
structure Emb {S T : Type} (A : Ow S) (B : Ow T) (g : S → T) (p : S → T → S) : Prop where
  split : ∀ {F : Hp} {s : S} {c : Ch}, A.o F s c → ∃ c1 c2, c.Perm (c1 ++ c2) ∧ B.o F (g s) c1 ∧ ∀ F' t c1', Same F F' → B.o F' t c1' → ∃ c', A.o F' (p s t) c' ∧ c'.Perm (c1' ++ c2)
section
variable {S T U : Type} {A : Ow S} {B : Ow T} {C : Ow U} {g : S → U} {p : S → U → S} {g' : T → U} {p' : T → U → T}
theorem emb_id : Emb A A (fun s => s) (fun _ t => t) := ⟨fun {F s c} h => ⟨c, [], by simp, h, fun F' t c1' _ h' => ⟨c1', h', by simp⟩⟩⟩
theorem emb_emp : Emb A emp (fun _ => ()) (fun s _ => s) := ⟨fun {F s c} h => ⟨[], c, by simp, rfl, fun F' t c1' sm h' => ⟨c, A.mono sm h, by rw [show c1' = [] from h']; simp⟩⟩⟩
theorem emb_l (e : Emb A C g p) : Emb (star A B) C (fun s => g s.1) (fun s t => (p s.1 t, s.2)) := ⟨fun {F s c} ⟨ca, cb, ec, ha, hb⟩ => by
  obtain ⟨c1, c2, pm, h1, k⟩ := e.split ha
  refine ⟨c1, c2 ++ cb, by rw [ec, ← List.append_assoc]; exact pm.append_right cb, h1, fun F' t c1' sm h' => ?_⟩
  obtain ⟨c', h2, pm'⟩ := k F' t c1' sm h'
  exact ⟨c' ++ cb, ⟨c', cb, rfl, h2, B.mono sm hb⟩, by rw [← List.append_assoc]; exact pm'.append_right cb⟩⟩
theorem emb_r (e : Emb B C g' p') : Emb (star A B) C (fun s => g' s.2) (fun s t => (s.1, p' s.2 t)) := ⟨fun {F s c} ⟨ca, cb, ec, ha, hb⟩ => by
  obtain ⟨c1, c2, pm, h1, k⟩ := e.split hb
  refine ⟨c1, ca ++ c2, ?_, h1, fun F' t c1' sm h' => ?_⟩
  · rw [ec]
    refine (pm.append_left ca).trans ?_
    rw [← List.append_assoc, ← List.append_assoc]
    exact List.perm_append_comm.append_right c2
  · obtain ⟨c', h2, pm'⟩ := k F' t c1' sm h'
    refine ⟨ca ++ c', ⟨ca, c', rfl, A.mono sm ha, h2⟩, ?_⟩
    refine (pm'.append_left ca).trans ?_
    rw [← List.append_assoc, ← List.append_assoc]
    exact List.perm_append_comm.append_right c2⟩
end
end T

/-! T2: judgements over the readings: expressions, tests, rows, what is walked, blocks. -/
namespace T
open PySem L2
section
variable {S S0 S1 α β γ δ Z ω : Type}
/-- an expression gives b and leaves the owned state s' -/
def Ev (te : TE) (σ : L2.St) (F : Hp) (A : Ow S) (R : Rl β) (m : M S β) : Prop :=
  ∀ s b s', m s = some (b, s') → ∀ F1 H c O, Same F F1 → A.o F1 s c → Wd F1 H (c ++ O) → ∀ Q : VK,
    (∀ v F' H' c', Same F1 F' → A.o F' s' c' → Wd F' H' (c' ++ O) → R.r F' v b → Q v H') → te σ H Q
def EvT (te : TT) (σ : L2.St) (F : Hp) (A : Ow S) (m : M S Bool) : Prop :=
  ∀ s b s', m s = some (b, s') → ∀ F1 H c O, Same F F1 → A.o F1 s c → Wd F1 H (c ++ O) → ∀ Q : Bool → Hp → Prop,
    (∀ F' H' c', Same F1 F' → A.o F' s' c' → Wd F' H' (c' ++ O) → Q b H') → te σ H Q
def EvA (te : TA) (σ : L2.St) (F : Hp) (A : Ow S) (R : Ar β) (m : M S β) : Prop :=
  ∀ s b s', m s = some (b, s') → ∀ F1 H c O, Same F F1 → A.o F1 s c → Wd F1 H (c ++ O) → ∀ Q : List V → Hp → Prop,
    (∀ vs F' H' c', Same F1 F' → A.o F' s' c' → Wd F' H' (c' ++ O) → R.r F' vs b → Q vs H') → te σ H Q
/-- an optional part of a slice -/
def EvP (te : TO) (σ : L2.St) (F : Hp) (A : Ow S) (m : M S (Option Int)) : Prop :=
  ∀ s b s', m s = some (b, s') → ∀ F1 H c O, Same F F1 → A.o F1 s c → Wd F1 H (c ++ O) → ∀ Q : Option Int → Hp → Prop,
    (∀ F' H' c', Same F1 F' → A.o F' s' c' → Wd F' H' (c' ++ O) → Q b H') → te σ H Q
/-- a new owned thing -/
def EvO (te : TE) (σ : L2.St) (F : Hp) (A : Ow S) (B : V → Ow β) (m : M S β) : Prop :=
  ∀ s b s', m s = some (b, s') → ∀ F1 H c O, Same F F1 → A.o F1 s c → Wd F1 H (c ++ O) → ∀ Q : VK,
    (∀ v F' H' c' cb, Same F1 F' → A.o F' s' c' → (B v).o F' b cb → Wd F' H' (cb ++ (c' ++ O)) → Q v H') → te σ H Q
def VL2 (r : R2) (R : Rl α) (R' : Rl β) (T : Rl γ) (f : α → β → Option γ) : Prop :=
  ∀ F H O x y a b c, Wd F H O → R.r F x a → R'.r F y b → f a b = some c → ∀ Q : VK, (∀ v F' H', Same F F' → Wd F' H' O → T.r F' v c → Q v H') → r x y H Q
def VLc (r : List V → Hp → VK → Prop) (R : Ar α) (T : Rl γ) (f : α → Option γ) : Prop :=
  ∀ F H O xs a c, Wd F H O → R.r F xs a → f a = some c → ∀ Q : VK, (∀ v F' H', Same F F' → Wd F' H' O → T.r F' v c → Q v H') → r xs H Q
def VLo (r : List V → Hp → VK → Prop) (R : Ar α) (B : V → Ow γ) (f : α → Option γ) : Prop :=
  ∀ F H O xs a c, Wd F H O → R.r F xs a → f a = some c → ∀ Q : VK, (∀ v F' H' cb, Same F F' → (B v).o F' c cb → Wd F' H' (cb ++ O) → Q v H') → r xs H Q
def VLo2 (r : R2) (R : Rl α) (R' : Rl β) (B : V → Ow γ) (f : α → β → Option γ) : Prop :=
  ∀ F H O x y a b c, Wd F H O → R.r F x a → R'.r F y b → f a b = some c → ∀ Q : VK, (∀ v F' H' cb, Same F F' → (B v).o F' c cb → Wd F' H' (cb ++ O) → Q v H') → r x y H Q
variable {te ta tb : TE} {tt tu : TT} {ar tr : TA} {σ : L2.St} {F F' : Hp} {A : Ow S} {R : Rl α} {R' : Rl β} {U : Rl γ} {T : Ar β} {m : M S α} {m' : M S β} {r : R2} {v : V}
theorem SameR (F : Hp) : Same F F := L2.Same.refl F
theorem Ev.up (h : Ev te σ F A R m) (s : Same F F') : Ev te σ F' A R m := fun s0 b s' e F1 H c O sm => h s0 b s' e F1 H c O (s.trans sm)
theorem ev_var {i : Nat} {x : α} (h : R.r F v x) (e : σ[i]? = some (some v)) : Ev (tVar i) σ F A R (ret x) := fun s b s' hm F1 H c O sm ho W Q q => by
  obtain ⟨rfl, rfl⟩ := ret_some hm
  exact ⟨v, e, q v F1 H c (SameR _) ho W (R.mono sm h)⟩
theorem ev_c {v : V} {x : α} (h : ∀ F, R.r F v x) : Ev (tC v) σ F A R (ret x) := fun s b s' hm F1 H c O sm ho W Q q => by
  obtain ⟨rfl, rfl⟩ := ret_some hm
  exact q v F1 H c (SameR _) ho W (h F1)
theorem ev_int {i : Int} : Ev (tC (.int i)) σ F A rInt (ret i) := ev_c fun _ => rfl
theorem ev_bl {i : Bool} : Ev (tC (.bl i)) σ F A rBool (ret i) := ev_c fun _ => rfl
theorem ev_str {i : Str} : Ev (tC (.str i)) σ F A rStr (ret i) := ev_c fun _ => rfl
theorem ev_non : Ev (tC .non) σ F A rNone (ret ()) := ev_c fun _ => rfl
theorem ev_nonO : Ev (tC .non) σ F A (rOpt R) (ret none) := ev_c fun _ => rfl
/-- a thing that may be None -/
theorem ev_opt (h : Ev te σ F A R m) : Ev te σ F A (rOpt R) (bnd m fun x => ret (some x)) := fun s b s' hm F1 H c O sm ho W Q q => by
  obtain ⟨a, s1, h1, h2⟩ := bnd_some hm
  obtain ⟨rfl, rfl⟩ := ret_some h2
  exact h s a _ h1 F1 H c O sm ho W Q fun v F' H' c' s2 o2 W2 r2 => q v F' H' c' s2 o2 W2 r2
theorem ev_op (hr : VL2 r R R' U f) (ha : Ev ta σ F A R m) (hb : Ev tb σ F A R' m') : Ev (tOp r ta tb) σ F A U (bnd m fun a => bnd m' fun b => lft (f a b)) := fun s b s' hm F1 H c O sm ho W Q q => by
  obtain ⟨a, s1, h1, hm⟩ := bnd_some hm
  obtain ⟨b1, s2, h2, hm⟩ := bnd_some hm
  obtain ⟨h3, rfl⟩ := lft_some hm
  refine ha s a s1 h1 F1 H c O sm ho W _ fun x F2 H2 c2 sm2 o2 W2 r2 => ?_
  refine hb s1 b1 _ h2 F2 H2 c2 O (sm.trans sm2) o2 W2 _ fun y F3 H3 c3 sm3 o3 W3 r3 => ?_
  exact hr F3 H3 _ x y a b1 b W3 (R.mono sm3 r2) r3 h3 Q fun v F4 H4 sm4 W4 r4 => q v F4 H4 c3 ((sm2.trans sm3).trans sm4) (A.mono sm4 o3) W4 r4
theorem ev_un {ru : V → Hp → VK → Prop} {f : α → γ} (hr : ∀ F H x a, R.r F x a → ∀ Q : VK, (∀ v, U.r F v (f a) → Q v H) → ru x H Q) (ha : Ev ta σ F A R m) : Ev (tUn ru ta) σ F A U (bnd m fun a => ret (f a)) := fun s b s' hm F1 H c O sm ho W Q q => by
  obtain ⟨a, s1, h1, hm⟩ := bnd_some hm
  obtain ⟨rfl, rfl⟩ := ret_some hm
  refine ha s a _ h1 F1 H c O sm ho W _ fun x F2 H2 c2 sm2 o2 W2 r2 => ?_
  exact hr F2 H2 x a r2 Q fun v r3 => q v F2 H2 c2 sm2 o2 W2 r3
/-! rows -/
theorem ea_nil : EvA tNil σ F A arNil (ret ()) := fun s b s' hm F1 H c O sm ho W Q q => by
  obtain ⟨rfl, rfl⟩ := ret_some hm
  exact q [] F1 H c (SameR _) ho W rfl
theorem ea_one (h : Ev te σ F A R m) : EvA (tCons te tNil) σ F A (arOne R) m := fun s b s' hm F1 H c O sm ho W Q q =>
  h s b s' hm F1 H c O sm ho W _ fun v F2 H2 c2 s2 o2 W2 r2 => q [v] F2 H2 c2 s2 o2 W2 ⟨v, rfl, r2⟩
theorem ea_cons (h : Ev te σ F A R m) (hr : EvA tr σ F A T m') : EvA (tCons te tr) σ F A (arC R T) (bnd m fun a => bnd m' fun b => ret (a, b)) := fun s b s' hm F1 H c O sm ho W Q q => by
  obtain ⟨a, s1, h1, hm⟩ := bnd_some hm
  obtain ⟨b1, s2, h2, hm⟩ := bnd_some hm
  obtain ⟨rfl, rfl⟩ := ret_some hm
  refine h s a s1 h1 F1 H c O sm ho W _ fun x F2 H2 c2 sm2 o2 W2 r2 => ?_
  refine hr s1 b1 _ h2 F2 H2 c2 O (sm.trans sm2) o2 W2 _ fun ys F3 H3 c3 sm3 o3 W3 r3 => ?_
  exact q _ F3 H3 c3 (sm2.trans sm3) o3 W3 ⟨x, ys, rfl, R.mono sm3 r2, r3⟩
theorem eal_nil : EvA tNil σ F A (arL R) (ret []) := fun s b s' hm F1 H c O sm ho W Q q => by
  obtain ⟨rfl, rfl⟩ := ret_some hm
  exact q [] F1 H c (SameR _) ho W .nil
theorem eal_cons {ms : M S (List α)} (h : Ev te σ F A R m) (hr : EvA tr σ F A (arL R) ms) : EvA (tCons te tr) σ F A (arL R) (bnd m fun a => bnd ms fun b => ret (a :: b)) := fun s b s' hm F1 H c O sm ho W Q q => by
  obtain ⟨a, s1, h1, hm⟩ := bnd_some hm
  obtain ⟨b1, s2, h2, hm⟩ := bnd_some hm
  obtain ⟨rfl, rfl⟩ := ret_some hm
  refine h s a s1 h1 F1 H c O sm ho W _ fun x F2 H2 c2 sm2 o2 W2 r2 => ?_
  refine hr s1 b1 _ h2 F2 H2 c2 O (sm.trans sm2) o2 W2 _ fun ys F3 H3 c3 sm3 o3 W3 r3 => ?_
  exact q _ F3 H3 c3 (sm2.trans sm3) o3 W3 (.cons (R.mono sm3 r2) r3)
theorem paired_len {P : α → β → Prop} : ∀ {xs : List α} {ys : List β}, Paired P xs ys → xs.length = ys.length
  | _, _, .nil => rfl
  | _, _, .cons _ t => by rw [List.length_cons, List.length_cons, paired_len t]
/-- the largest length that is spoken of -/
def lim : Nat := 1000000
theorem lim_le {n : Nat} (h : n < lim) : n < sizeLine := Nat.lt_of_lt_of_le h (by decide)
/-- a row of so many -/
class ArN {α : Type} (T : Ar α) (n : outParam Nat) : Prop where
  len : ∀ F vs x, T.r F vs x → vs.length = n
instance {α : Type} {R : Rl α} : ArN (arOne R) 1 := ⟨fun _ _ _ ⟨_, e, _⟩ => by rw [e]; rfl⟩
instance {α β : Type} {R : Rl α} {T : Ar β} {n : Nat} [h : ArN T n] : ArN (arC R T) (n + 1) := ⟨fun _ _ _ ⟨_, _, e, _, t⟩ => by rw [e, List.length_cons, h.len _ _ _ t]⟩
instance : ArN arNil 0 := ⟨fun _ _ _ e => by rw [show _ = _ from e]; rfl⟩
/-- displays -/
theorem ev_tup {n : Nat} [hz : ArN T n] (hn : n ≤ 100) (h : EvA ar σ F A T m') : Ev (tTup ar) σ F A (rTh T) m' := fun s b s' hm F1 H c O sm ho W Q q =>
  h s b s' hm F1 H c O sm ho W _ fun vs F2 H2 c2 s2 o2 W2 r2 => ⟨by rw [hz.len _ _ _ r2]; exact Nat.le_trans hn (by decide), fun p np =>
    q (.ref p) _ _ c2 (s2.trans (W2.sameF np)) (A.mono (W2.sameF np) o2) (W2.newF np) ⟨p, vs, rfl, upd_same, T.mono (W2.sameF np) r2⟩⟩
theorem ev_lsth {n : Nat} [hz : ArN T n] (hn : n ≤ 100) (h : EvA ar σ F A T m') : Ev (tLst ar) σ F A (rLh T) m' := fun s b s' hm F1 H c O sm ho W Q q =>
  h s b s' hm F1 H c O sm ho W _ fun vs F2 H2 c2 s2 o2 W2 r2 => ⟨by rw [hz.len _ _ _ r2]; exact Nat.le_trans hn (by decide), fun p np =>
    q (.ref p) _ _ c2 (s2.trans (W2.sameF np)) (A.mono (W2.sameF np) o2) (W2.newF np) ⟨p, vs, rfl, upd_same, T.mono (W2.sameF np) r2⟩⟩
/-- displays of things alike, n of them -/
def few {α : Type} (xs : List α) : Option (List α) := if xs.length ≤ 100 then some xs else none
theorem few_some {α : Type} {xs ys : List α} (h : few xs = some ys) : ys = xs ∧ xs.length ≤ 100 := by
  unfold few at h; split at h
  · cases h; exact ⟨rfl, by assumption⟩
  · cases h
theorem ev_tupl {ms : M S (List α)} (h : EvA ar σ F A (arL R) ms) : Ev (tTup ar) σ F A (rTup R) (bnd ms fun xs => lft (few xs)) := fun s b s' hm F1 H c O sm ho W Q q => by
  obtain ⟨xs, s1, h1, hm⟩ := bnd_some hm
  obtain ⟨h2, rfl⟩ := lft_some hm
  obtain ⟨rfl, hl⟩ := few_some h2
  exact h s _ _ h1 F1 H c O sm ho W _ fun vs F2 H2 c2 s2 o2 W2 r2 => ⟨by rw [paired_len r2]; exact Nat.le_trans hl (by decide), fun p np =>
    q (.ref p) _ _ c2 (s2.trans (W2.sameF np)) (A.mono (W2.sameF np) o2) (W2.newF np) ⟨p, vs, rfl, upd_same, paired_mono (fun _ _ => R.mono (W2.sameF np)) r2⟩⟩
theorem eo_lst {ms : M S (List α)} (h : EvA ar σ F A (arL R) ms) : EvO (tLst ar) σ F A (oLst R) (bnd ms fun xs => lft (few xs)) := fun s b s' hm F1 H c O sm ho W Q q => by
  obtain ⟨xs, s1, h1, hm⟩ := bnd_some hm
  obtain ⟨h2, rfl⟩ := lft_some hm
  obtain ⟨rfl, hl⟩ := few_some h2
  exact h s _ _ h1 F1 H c O sm ho W _ fun vs F2 H2 c2 s2 o2 W2 r2 => ⟨by rw [paired_len r2]; exact Nat.le_trans hl (by decide), fun p np =>
    q (.ref p) _ _ c2 [(p, .lst vs)] s2 o2 ⟨p, vs, rfl, rfl, r2⟩ (W2.newO np)⟩
/-- an owned list is frozen -/
theorem ev_frz {ms : M S (List α)} (h : EvO te σ F A (oLst R) ms) : Ev te σ F A (rLst R) ms := fun s b s' hm F1 H c O sm ho W Q q =>
  h s b s' hm F1 H c O sm ho W Q fun v F2 H2 c2 cb s2 o2 ob W2 => by
    obtain ⟨l, vs, rfl, rfl, rp⟩ := ob
    have W3 := Wd.frz W2
    have s3 := Wd.frzS W2
    exact q _ _ H2 c2 (s2.trans s3) (A.mono s3 o2) W3 ⟨l, vs, rfl, upd_same, paired_mono (fun _ _ => R.mono s3) rp⟩
/-! built-in functions -/
variable {rc : List V → Hp → VK → Prop}
theorem ev_cb {f : β → Option γ} (hr : VLc rc T U f) (h : EvA ar σ F A T m') : Ev (tCB rc ar) σ F A U (bnd m' fun x => lft (f x)) := fun s b s' hm F1 H c O sm ho W Q q => by
  obtain ⟨xs, s1, h1, hm⟩ := bnd_some hm
  obtain ⟨h2, rfl⟩ := lft_some hm
  refine h s _ _ h1 F1 H c O sm ho W _ fun vs F2 H2 c2 s2 o2 W2 r2 => ?_
  exact hr F2 H2 _ vs xs b W2 r2 h2 Q fun v F3 H3 s3 W3 r3 => q v F3 H3 c2 (s2.trans s3) (A.mono s3 o2) W3 r3
theorem eo_cb {f : β → Option γ} {B : V → Ow γ} (hr : VLo rc T B f) (h : EvA ar σ F A T m') : EvO (tCB rc ar) σ F A B (bnd m' fun x => lft (f x)) := fun s b s' hm F1 H c O sm ho W Q q => by
  obtain ⟨xs, s1, h1, hm⟩ := bnd_some hm
  obtain ⟨h2, rfl⟩ := lft_some hm
  refine h s _ _ h1 F1 H c O sm ho W _ fun vs F2 H2 c2 s2 o2 W2 r2 => ?_
  exact hr F2 H2 _ vs xs b W2 r2 h2 Q fun v F3 H3 cb s3 ob W3 => q v F3 H3 c2 cb (s2.trans s3) (A.mono s3 o2) ob W3
theorem eo_op {f : α → β → Option γ} {B : V → Ow γ} (hr : VLo2 r R R' B f) (ha : Ev ta σ F A R m) (hb : Ev tb σ F A R' m') : EvO (tOp r ta tb) σ F A B (bnd m fun a => bnd m' fun b => lft (f a b)) := fun s b s' hm F1 H c O sm ho W Q q => by
  obtain ⟨a, s1, h1, hm⟩ := bnd_some hm
  obtain ⟨b1, s2, h2, hm⟩ := bnd_some hm
  obtain ⟨h3, rfl⟩ := lft_some hm
  refine ha s a s1 h1 F1 H c O sm ho W _ fun x F2 H2 c2 sm2 o2 W2 r2 => ?_
  refine hb s1 b1 _ h2 F2 H2 c2 O (sm.trans sm2) o2 W2 _ fun y F3 H3 c3 sm3 o3 W3 r3 => ?_
  exact hr F3 H3 _ x y a b1 b W3 (R.mono sm3 r2) r3 h3 Q fun v F4 H4 cb sm4 ob W4 => q v F4 H4 c3 cb ((sm2.trans sm3).trans sm4) (A.mono sm4 o3) ob W4
/-! promises: of pure defs; of defs with owned state -/
def spP (T : Ar α) (U : Rl γ) (f : α → Option γ) : Sp := fun vs H Q _ => ∃ F O x b, T.r F vs x ∧ Wd F H O ∧ f x = some b ∧ ∀ v F' H', Same F F' → Wd F' H' O → U.r F' v b → Q v H'
def spS {ι : Type} (T : ι → Ar α) (B : ι → Ow S1) (U : Rl γ) (f : α → M S1 γ) : Sp := fun vs H Q _ => ∃ (i : ι) (F : Hp) (O c : Ch) (x : α) (s : S1) (b : γ) (s' : S1), (T i).r F vs x ∧ (B i).o F s c ∧ Wd F H (c ++ O) ∧ f x s = some (b, s') ∧
  ∀ v F' H' c', Same F F' → (B i).o F' s' c' → Wd F' H' (c' ++ O) → U.r F' v b → Q v H'
/-- a pure def whose result is a new owned thing -/
def spPo (T : Ar α) (B : V → Ow γ) (f : α → Option γ) : Sp := fun vs H Q _ => ∃ F O x b, T.r F vs x ∧ Wd F H O ∧ f x = some b ∧ ∀ v F' H' cb, Same F F' → (B v).o F' b cb → Wd F' H' (cb ++ O) → Q v H'
theorem ev_callP {f : β → Option γ} {E : XK} (h : EvA ar σ F A T m') : Ev (tCall (spP T U f) [] E ar) σ F A U (bnd m' fun x => lft (f x)) := fun s b s' hm F1 H c O sm ho W Q q => by
  obtain ⟨xs, s1, h1, hm⟩ := bnd_some hm
  obtain ⟨h2, rfl⟩ := lft_some hm
  refine h s _ _ h1 F1 H c O sm ho W _ fun vs F2 H2 c2 s2 o2 W2 r2 => ?_
  rw [List.append_nil]
  exact ⟨F2, _, xs, b, r2, W2, h2, fun v F3 H3 s3 W3 r3 => q v F3 H3 c2 (s2.trans s3) (A.mono s3 o2) W3 r3⟩
theorem eo_callP {f : β → Option γ} {B : V → Ow γ} {E : XK} (h : EvA ar σ F A T m') : EvO (tCall (spPo T B f) [] E ar) σ F A B (bnd m' fun x => lft (f x)) := fun s b s' hm F1 H c O sm ho W Q q => by
  obtain ⟨xs, s1, h1, hm⟩ := bnd_some hm
  obtain ⟨h2, rfl⟩ := lft_some hm
  refine h s _ _ h1 F1 H c O sm ho W _ fun vs F2 H2 c2 s2 o2 W2 r2 => ?_
  rw [List.append_nil]
  exact ⟨F2, _, xs, b, r2, W2, h2, fun v F3 H3 cb s3 ob W3 => q v F3 H3 c2 cb (s2.trans s3) (A.mono s3 o2) ob W3⟩
theorem ev_callS {ι : Type} (i : ι) {T : ι → Ar β} {B : ι → Ow S1} {f : β → M S1 γ} {E : XK} {g : S → S1} {p : S → S1 → S} (e : Emb A (B i) g p) (h : EvA ar σ F A (T i) m') :
    Ev (tCall (spS T B U f) [] E ar) σ F A U (bnd m' fun x => zm g p (f x)) := fun s b s' hm F1 H c O sm ho W Q q => by
  obtain ⟨xs, s1, h1, hm⟩ := bnd_some hm
  obtain ⟨t, h2, rfl⟩ := zm_some hm
  refine h s _ _ h1 F1 H c O sm ho W _ fun vs F2 H2 c2 s2 o2 W2 r2 => ?_
  obtain ⟨c3, c4, pm, ob, k⟩ := e.split o2
  rw [List.append_nil]
  refine ⟨i, F2, c4 ++ O, c3, xs, g s1, b, t, r2, ob, W2.perm ?_, h2, fun v F3 H3 c3' s3 o3 W3 r3 => ?_⟩
  · rw [← List.append_assoc]; exact pm.append_right O
  · obtain ⟨c', oc, pm'⟩ := k F3 t c3' s3 o3
    refine q v F3 H3 c' (s2.trans s3) oc (W3.perm ?_) r3
    rw [← List.append_assoc]; exact (pm'.append_right O).symm
/-! tests -/
theorem et_B {mb : M S Bool} (h : Ev te σ F A rBool mb) : EvT (tB te) σ F A mb := fun s b s' hm F1 H c O sm ho W Q q =>
  h s b s' hm F1 H c O sm ho W _ fun v F2 H2 c2 s2 o2 W2 r2 => ⟨b, r2, q F2 H2 c2 s2 o2 W2⟩
theorem et_test {mb : M S Bool} (h : Ev te σ F A rBool mb) : EvT (tTest te) σ F A mb := fun s b s' hm F1 H c O sm ho W Q q =>
  h s b s' hm F1 H c O sm ho W _ fun v F2 H2 c2 s2 o2 W2 r2 => ⟨b, r2, q F2 H2 c2 s2 o2 W2⟩
theorem et_not {mb : M S Bool} (h : EvT tt σ F A mb) : EvT (tNot tt) σ F A (bnd mb fun b => ret (!b)) := fun s b s' hm F1 H c O sm ho W Q q => by
  obtain ⟨a, s1, h1, hm⟩ := bnd_some hm
  obtain ⟨rfl, rfl⟩ := ret_some hm
  exact h s a _ h1 F1 H c O sm ho W _ fun F2 H2 c2 s2 o2 W2 => q F2 H2 c2 s2 o2 W2
theorem et_and {mb mc : M S Bool} (h : EvT tt σ F A mb) (h' : EvT tu σ F A mc) : EvT (tAnd tt tu) σ F A (bnd mb fun b => bif b then mc else ret false) := fun s b s' hm F1 H c O sm ho W Q q => by
  obtain ⟨a, s1, h1, hm⟩ := bnd_some hm
  refine h s a _ h1 F1 H c O sm ho W _ fun F2 H2 c2 s2 o2 W2 => ?_
  cases a with
  | true => exact iteT (h' s1 b s' hm F2 H2 c2 O (sm.trans s2) o2 W2 Q fun F3 H3 c3 s3 o3 W3 => q F3 H3 c3 (s2.trans s3) o3 W3)
  | false =>
    obtain ⟨rfl, rfl⟩ := ret_some hm
    exact iteF (q F2 H2 c2 s2 o2 W2)
theorem et_or {mb mc : M S Bool} (h : EvT tt σ F A mb) (h' : EvT tu σ F A mc) : EvT (tOr tt tu) σ F A (bnd mb fun b => bif b then ret true else mc) := fun s b s' hm F1 H c O sm ho W Q q => by
  obtain ⟨a, s1, h1, hm⟩ := bnd_some hm
  refine h s a _ h1 F1 H c O sm ho W _ fun F2 H2 c2 s2 o2 W2 => ?_
  cases a with
  | false => exact iteF (h' s1 b s' hm F2 H2 c2 O (sm.trans s2) o2 W2 Q fun F3 H3 c3 s3 o3 W3 => q F3 H3 c3 (s2.trans s3) o3 W3)
  | true =>
    obtain ⟨rfl, rfl⟩ := ret_some hm
    exact iteT (q F2 H2 c2 s2 o2 W2)
/-! and, or, not, if as values -/
theorem ev_not {mb : M S Bool} (h : Ev te σ F A rBool mb) : Ev (tNotV te) σ F A rBool (bnd mb fun b => ret (!b)) := fun s b s' hm F1 H c O sm ho W Q q => by
  obtain ⟨a, s1, h1, hm⟩ := bnd_some hm
  obtain ⟨rfl, rfl⟩ := ret_some hm
  exact h s a _ h1 F1 H c O sm ho W _ fun v F2 H2 c2 s2 o2 W2 r2 => ⟨a, r2, q _ F2 H2 c2 s2 o2 W2 rfl⟩
theorem ev_and {mb mc : M S Bool} (h : Ev ta σ F A rBool mb) (h' : Ev tb σ F A rBool mc) : Ev (tAndV ta tb) σ F A rBool (bnd mb fun b => bif b then mc else ret false) := fun s b s' hm F1 H c O sm ho W Q q => by
  obtain ⟨a, s1, h1, hm⟩ := bnd_some hm
  refine h s a _ h1 F1 H c O sm ho W _ fun v F2 H2 c2 s2 o2 W2 r2 => ⟨a, r2, ?_⟩
  cases a with
  | true => exact iteT (h' s1 b s' hm F2 H2 c2 O (sm.trans s2) o2 W2 Q fun v F3 H3 c3 s3 o3 W3 r3 => q v F3 H3 c3 (s2.trans s3) o3 W3 r3)
  | false =>
    obtain ⟨rfl, rfl⟩ := ret_some hm
    exact iteF (q _ F2 H2 c2 s2 o2 W2 rfl)
theorem ev_or {mb mc : M S Bool} (h : Ev ta σ F A rBool mb) (h' : Ev tb σ F A rBool mc) : Ev (tOrV ta tb) σ F A rBool (bnd mb fun b => bif b then ret true else mc) := fun s b s' hm F1 H c O sm ho W Q q => by
  obtain ⟨a, s1, h1, hm⟩ := bnd_some hm
  refine h s a _ h1 F1 H c O sm ho W _ fun v F2 H2 c2 s2 o2 W2 r2 => ⟨a, r2, ?_⟩
  cases a with
  | false => exact iteF (h' s1 b s' hm F2 H2 c2 O (sm.trans s2) o2 W2 Q fun v F3 H3 c3 s3 o3 W3 r3 => q v F3 H3 c3 (s2.trans s3) o3 W3 r3)
  | true =>
    obtain ⟨rfl, rfl⟩ := ret_some hm
    exact iteT (q _ F2 H2 c2 s2 o2 W2 rfl)
theorem ev_if {mb : M S Bool} {m2 : M S α} (h : EvT tt σ F A mb) (ha : Ev ta σ F A R m) (hb : Ev tb σ F A R m2) : Ev (tIf tt ta tb) σ F A R (bnd mb fun b => bif b then m else m2) := fun s b s' hm F1 H c O sm ho W Q q => by
  obtain ⟨a, s1, h1, hm⟩ := bnd_some hm
  refine h s a _ h1 F1 H c O sm ho W _ fun F2 H2 c2 s2 o2 W2 => ?_
  cases a with
  | true => exact iteT (ha s1 b s' hm F2 H2 c2 O (sm.trans s2) o2 W2 Q fun v F3 H3 c3 s3 o3 W3 r3 => q v F3 H3 c3 (s2.trans s3) o3 W3 r3)
  | false => exact iteF (hb s1 b s' hm F2 H2 c2 O (sm.trans s2) o2 W2 Q fun v F3 H3 c3 s3 o3 W3 r3 => q v F3 H3 c3 (s2.trans s3) o3 W3 r3)

/-! what is walked -/
def ItR (J : It) (F : Hp) (R : Rl α) (xs : List α) : Prop := ∃ (G : Hp → Prop) (Y : Nat → Hp → V → Hp → Prop), Walk J xs.length G Y ∧ (∀ F1 H, Same F F1 → Same F1 H → G H) ∧
  ∀ i H v H', i < xs.length → Y i H v H' → ∀ F1 O, Same F F1 → Wd F1 H O → ∃ F', Same F1 F' ∧ Wd F' H' O ∧ ∃ x, xs[i]? = some x ∧ R.r F' v x
def EvI (wi : TI) (σ : L2.St) (F : Hp) (A : Ow S) (R : Rl α) (m : M S (List α)) : Prop :=
  ∀ s xs s', m s = some (xs, s') → ∀ F1 H c O, Same F F1 → A.o F1 s c → Wd F1 H (c ++ O) → ∀ Q : It → Hp → Prop,
    (∀ J F' H' c', Same F1 F' → A.o F' s' c' → Wd F' H' (c' ++ O) → ItR J F' R xs → Q J H') → wi σ H Q
theorem paired_get {P : V → α → Prop} : ∀ {vs : List V} {xs : List α} {i : Nat} {v : V}, Paired P vs xs → vs[i]? = some v → ∃ x, xs[i]? = some x ∧ P v x
  | _, _, _, _, .nil, e => by simp at e
  | _, _, 0, _, .cons r _, e => by simp at e; subst e; exact ⟨_, rfl, r⟩
  | _, _, i + 1, v, .cons _ t, e => by
    obtain ⟨x, h1, h2⟩ := paired_get (i := i) t (by simpa using e)
    exact ⟨x, by simpa using h1, h2⟩
theorem paired_get' {P : V → α → Prop} : ∀ {vs : List V} {xs : List α} {i : Nat} {x : α}, Paired P vs xs → xs[i]? = some x → ∃ v, vs[i]? = some v ∧ P v x
  | _, _, _, _, .nil, e => by simp at e
  | _, _, 0, _, .cons r _, e => by simp at e; subst e; exact ⟨_, rfl, r⟩
  | _, _, i + 1, v, .cons _ t, e => by
    obtain ⟨x, h1, h2⟩ := paired_get' (i := i) t (by simpa using e)
    exact ⟨x, by simpa using h1, h2⟩
variable {K : PySem.W.Frag} {ml : M S (List α)}
theorem ei_tup (h : Ev te σ F A (rTup R) ml) : EvI (iTup K te) σ F A R ml := fun s b s' hm F1 H c O sm ho W Q q => by
  refine h s b s' hm F1 H c O sm ho W _ fun v F2 H2 c2 s2 o2 W2 r2 => ?_
  obtain ⟨p, vs, rfl, hp, rp⟩ := r2
  refine ⟨p, rfl, ⟨vs, SqT.of (W2.sub _ _ hp)⟩, q _ F2 H2 c2 s2 o2 W2 ?_⟩
  have hl := paired_len rp
  refine ⟨_, _, hl ▸ walk_tup (K := K) (a := p) (xs := vs), fun F3 H3 s3 s4 => SqT.of (s4 _ _ (s3 _ _ hp)), fun i H3 v H' hi y F3 O3 s3 W3 => ?_⟩
  obtain ⟨rfl, e⟩ := y
  obtain ⟨x, e1, r1⟩ := paired_get rp e
  exact ⟨F3, SameR _, W3, x, e1, R.mono s3 r1⟩
theorem ei_lst (h : Ev te σ F A (rLst R) ml) : EvI (iList K te) σ F A R ml := fun s b s' hm F1 H c O sm ho W Q q => by
  refine h s b s' hm F1 H c O sm ho W _ fun v F2 H2 c2 s2 o2 W2 r2 => ?_
  obtain ⟨p, vs, rfl, hp, rp⟩ := r2
  refine ⟨p, rfl, ⟨vs, SqL.of (W2.sub _ _ hp)⟩, q _ F2 H2 c2 s2 o2 W2 ?_⟩
  have hl := paired_len rp
  refine ⟨_, _, hl ▸ walk_list (K := K) (a := p) (xs := vs), fun F3 H3 s3 s4 => SqL.of (s4 _ _ (s3 _ _ hp)), fun i H3 v H' hi y F3 O3 s3 W3 => ?_⟩
  obtain ⟨rfl, e⟩ := y
  obtain ⟨x, e1, r1⟩ := paired_get rp e
  exact ⟨F3, SameR _, W3, x, e1, R.mono s3 r1⟩
/-- lo, lo + 1, .. (n of them) -/
def rngL (lo : Int) : Nat → List Int
  | 0 => []
  | n + 1 => lo :: rngL (lo + 1) n
theorem rngL_len : ∀ (lo : Int) (n : Nat), (rngL lo n).length = n
  | _, 0 => rfl
  | lo, n + 1 => by rw [rngL, List.length_cons, rngL_len]
theorem rngL_get : ∀ (lo : Int) (n i : Nat), i < n → (rngL lo n)[i]? = some (lo + i)
  | lo, n + 1, 0, _ => by simp [rngL]
  | lo, n + 1, i + 1, h => by
    rw [rngL, List.getElem?_cons_succ, rngL_get (lo + 1) n i (by omega)]
    congr 1; push_cast; omega
def rng (lo hi : Int) : Option (List Int) := if -1000000 ≤ lo ∧ lo ≤ 1000000 ∧ -1000000 ≤ hi ∧ hi ≤ 1000000 then some (rngL lo (hi - lo).toNat) else none
theorem itr_rng {lo : Int} {n : Nat} : ItR (Itr lo n) F rInt (rngL lo n) := by
  refine ⟨fun _ => True, YFn fun i => .int (lo + (i : Nat)), ?_, fun _ _ _ _ => trivial, fun i H v H' hi y F3 O3 s3 W3 => ?_⟩
  · rw [rngL_len]; exact walk_range
  · obtain ⟨rfl, rfl⟩ := y
    rw [rngL_len] at hi
    exact ⟨F3, SameR _, W3, lo + (i : Nat), rngL_get lo n i hi, rfl⟩
theorem rng_some {lo hi : Int} {xs : List Int} (h : rng lo hi = some xs) : xs = rngL lo (hi - lo).toNat ∧ -1000000 ≤ lo ∧ lo ≤ 1000000 ∧ -1000000 ≤ hi ∧ hi ≤ 1000000 := by
  unfold rng at h; split at h
  · cases h; exact ⟨rfl, by assumption⟩
  · cases h
theorem ei_rng1 {mi : M S Int} (h : Ev ta σ F A rInt mi) : EvI (iRng1 (tCons ta tNil)) σ F A rInt (bnd mi fun n => lft (rng 0 n)) := fun s b s' hm F1 H c O sm ho W Q q => by
  obtain ⟨n, s1, h1, hm⟩ := bnd_some hm
  obtain ⟨h2, rfl⟩ := lft_some hm
  obtain ⟨rfl, l1, l2, l3, l4⟩ := rng_some h2
  refine h s _ _ h1 F1 H c O sm ho W _ fun v F2 H2 c2 s2 o2 W2 r2 => ⟨n, by rw [show v = .int n from r2], by omega, by omega, q _ F2 H2 c2 s2 o2 W2 ?_⟩
  rw [show (n - 0).toNat = n.toNat by omega]
  exact itr_rng
theorem ei_rng2 {mi mj : M S Int} (h : Ev ta σ F A rInt mi) (h' : Ev tb σ F A rInt mj) : EvI (iRng2 (tCons ta (tCons tb tNil))) σ F A rInt (bnd mi fun n => bnd mj fun k => lft (rng n k)) := fun s b s' hm F1 H c O sm ho W Q q => by
  obtain ⟨n, s1, h1, hm⟩ := bnd_some hm
  obtain ⟨k, s2, h2, hm⟩ := bnd_some hm
  obtain ⟨h3, rfl⟩ := lft_some hm
  obtain ⟨rfl, l1, l2, l3, l4⟩ := rng_some h3
  refine h s _ _ h1 F1 H c O sm ho W _ fun v F2 H2 c2 sm2 o2 W2 r2 => ?_
  refine h' s1 _ _ h2 F2 H2 c2 O (sm.trans sm2) o2 W2 _ fun w F3 H3 c3 sm3 o3 W3 r3 => ⟨n, k, by rw [show v = .int n from r2, show w = .int k from r3], ⟨by omega, by omega, by omega, by omega⟩, q _ F3 H3 c3 (sm2.trans sm3) o3 W3 itr_rng⟩
/-- what a new pair of the i-th ones gives -/
theorem itr_pair {J : It} {G : Hp → Prop} {xs : List α} {ys : List β} {n : Nat} {f g : Nat → Option V} (hn : n = min xs.length ys.length) (w : Walk J n G (YPair f g)) (hG : ∀ F1 H, Same F F1 → Same F1 H → G H)
    (hf : ∀ i v, f i = some v → i < n → ∃ x, xs[i]? = some x ∧ R.r F v x) (hg : ∀ i v, g i = some v → i < n → ∃ x, ys[i]? = some x ∧ R'.r F v x) : ItR J F (rTh (arC R (arOne R'))) (xs.zip ys) := by
  subst hn
  refine ⟨G, YPair f g, by rw [List.length_zip]; exact w, hG, fun i H v H' hi y F3 O3 s3 W3 => ?_⟩
  obtain ⟨T, x, z, rfl, nT, rfl, e1, e2⟩ := y
  rw [List.length_zip] at hi
  obtain ⟨a, ha, ra⟩ := hf i x e1 hi
  obtain ⟨b, hb, rb⟩ := hg i z e2 hi
  have sF := W3.sameF (o := .tup [x, z]) nT
  refine ⟨_, sF, W3.newF nT, (a, b), ?_, T, [x, z], rfl, upd_same, x, [z], rfl, R.mono (s3.trans sF) ra, z, rfl, R'.mono (s3.trans sF) rb⟩
  rw [List.getElem?_zip_eq_some]; exact ⟨ha, hb⟩
def enumL (xs : List α) : List (Int × α) := (rngL 0 xs.length).zip xs
theorem ei_enum (h : Ev te σ F A (rLst R) ml) : EvI (iEnum K (tCons te tNil)) σ F A (rTh (arC rInt (arOne R))) (bnd ml fun xs => ret (enumL xs)) := fun s b s' hm F1 H c O sm ho W Q q => by
  obtain ⟨xs, s1, h1, hm⟩ := bnd_some hm
  obtain ⟨rfl, rfl⟩ := ret_some hm
  refine h s _ _ h1 F1 H c O sm ho W _ fun v F2 H2 c2 s2 o2 W2 r2 => ?_
  obtain ⟨p, vs, rfl, hp, rp⟩ := r2
  refine ⟨p, vs, rfl, SqL.of (W2.sub _ _ hp), q _ F2 H2 c2 s2 o2 W2 ?_⟩
  have hl := paired_len rp
  refine itr_pair (n := vs.length) (by rw [rngL_len, hl]; omega) (walk_enum (K := K) (a := p) (xs := vs)) (fun F3 H3 s3 s4 => SqL.of (s4 _ _ (s3 _ _ hp))) (fun i v e hi => ?_) (fun i v e hi => paired_get rp e)
  cases e
  exact ⟨(i : Int), by rw [rngL_get 0 _ i (by omega)]; simp, rfl⟩
theorem ei_zip {mr : M S (List β)} (h : Ev ta σ F A (rLst R) ml) (h' : Ev tb σ F A (rLst R') mr) : EvI (iZip K (tCons ta (tCons tb tNil))) σ F A (rTh (arC R (arOne R'))) (bnd ml fun xs => bnd mr fun ys => ret (xs.zip ys)) := fun s b s' hm F1 H c O sm ho W Q q => by
  obtain ⟨xs, s1, h1, hm⟩ := bnd_some hm
  obtain ⟨ys, s2, h2, hm⟩ := bnd_some hm
  obtain ⟨rfl, rfl⟩ := ret_some hm
  refine h s _ _ h1 F1 H c O sm ho W _ fun v F2 H2 c2 sm2 o2 W2 r2 => ?_
  refine h' s1 _ _ h2 F2 H2 c2 O (sm.trans sm2) o2 W2 _ fun w F3 H3 c3 sm3 o3 W3 r3 => ?_
  obtain ⟨p, vs, rfl, hp, rp⟩ := r2
  obtain ⟨p', ws, rfl, hp', rp'⟩ := r3
  have hp2 := sm3 _ _ hp
  refine ⟨p, p', vs, ws, rfl, SqL.of (W3.sub _ _ hp2), SqL.of (W3.sub _ _ hp'), q _ F3 H3 c3 (sm2.trans sm3) o3 W3 ?_⟩
  exact itr_pair (n := min vs.length ws.length) (by rw [paired_len rp, paired_len rp']) (walk_zip rfl) (fun F4 H4 s4 s5 => ⟨SqL.of (s5 _ _ (s4 _ _ hp2)), SqL.of (s5 _ _ (s4 _ _ hp'))⟩)
    (fun i v e hi => by obtain ⟨x, e1, r1⟩ := paired_get rp e; exact ⟨x, e1, R.mono sm3 r1⟩) (fun i v e hi => paired_get rp' e)

/-! targets -/
/-- the target g takes v at the slots w; K: what the slots may be then -/
def Go (g : TG) (v : V) (w : L2.St) (F : Hp) (k : L2.St → Prop) : Prop := ∀ F1 H O, Same F F1 → Wd F1 H O → ∀ Q : L2.St → Hp → Prop, (∀ σ2, k σ2 → Q σ2 H) → g v w H Q
theorem go_name {i : Nat} {w : L2.St} : Go (gName i) v w F (fun σ2 => σ2 = w.set i (some v)) := fun _ _ _ _ _ _ q => q _ rfl
theorem go_t2 {i j : Nat} {w : L2.St} {x : α × β} (h : (rTh (arC R (arOne R'))).r F v x) : Go (gTup K 2 (gCons (gName i) (gCons (gName j) gNil))) v w F (fun σ2 => ∃ v1 v2, R.r F v1 x.1 ∧ R'.r F v2 x.2 ∧ σ2 = (w.set i (some v1)).set j (some v2)) := fun F1 H O sm W Q q => by
  obtain ⟨p, vs, rfl, hp, v1, _, rfl, r1, v2, rfl, r2⟩ := h
  exact ⟨p, _, rfl, SqT.of (W.sub _ _ (sm _ _ hp)), rfl, v1, _, rfl, v2, _, rfl, rfl, q _ ⟨v1, v2, r1, r2, rfl⟩⟩
variable {R3 : Rl γ} {R4 : Rl δ} {ε ζ : Type} {R5 : Rl ε} {R6 : Rl ζ}
theorem go_t3 {i j k : Nat} {w : L2.St} {x : α × β × γ} (h : (rTh (arC R (arC R' (arOne R3)))).r F v x) : Go (gTup K 3 (gCons (gName i) (gCons (gName j) (gCons (gName k) gNil)))) v w F
    (fun σ2 => ∃ v1 v2 v3, R.r F v1 x.1 ∧ R'.r F v2 x.2.1 ∧ R3.r F v3 x.2.2 ∧ σ2 = ((w.set i (some v1)).set j (some v2)).set k (some v3)) := fun F1 H O sm W Q q => by
  obtain ⟨p, vs, rfl, hp, v1, _, rfl, r1, v2, _, rfl, r2, v3, rfl, r3⟩ := h
  exact ⟨p, _, rfl, SqT.of (W.sub _ _ (sm _ _ hp)), rfl, v1, _, rfl, v2, _, rfl, v3, _, rfl, rfl, q _ ⟨v1, v2, v3, r1, r2, r3, rfl⟩⟩
theorem go_t4 {i j k l : Nat} {w : L2.St} {x : α × β × γ × δ} (h : (rTh (arC R (arC R' (arC R3 (arOne R4))))).r F v x) : Go (gTup K 4 (gCons (gName i) (gCons (gName j) (gCons (gName k) (gCons (gName l) gNil))))) v w F
    (fun σ2 => ∃ v1 v2 v3 v4, R.r F v1 x.1 ∧ R'.r F v2 x.2.1 ∧ R3.r F v3 x.2.2.1 ∧ R4.r F v4 x.2.2.2 ∧ σ2 = (((w.set i (some v1)).set j (some v2)).set k (some v3)).set l (some v4)) := fun F1 H O sm W Q q => by
  obtain ⟨p, vs, rfl, hp, v1, _, rfl, r1, v2, _, rfl, r2, v3, _, rfl, r3, v4, rfl, r4⟩ := h
  exact ⟨p, _, rfl, SqT.of (W.sub _ _ (sm _ _ hp)), rfl, v1, _, rfl, v2, _, rfl, v3, _, rfl, v4, _, rfl, rfl, q _ ⟨v1, v2, v3, v4, r1, r2, r3, r4, rfl⟩⟩
theorem go_t6 {i j k l n o : Nat} {w : L2.St} {x : α × β × γ × δ × ε × ζ} (h : (rTh (arC R (arC R' (arC R3 (arC R4 (arC R5 (arOne R6))))))).r F v x) :
    Go (gTup K 6 (gCons (gName i) (gCons (gName j) (gCons (gName k) (gCons (gName l) (gCons (gName n) (gCons (gName o) gNil))))))) v w F
    (fun σ2 => ∃ v1 v2 v3 v4 v5 v6, R.r F v1 x.1 ∧ R'.r F v2 x.2.1 ∧ R3.r F v3 x.2.2.1 ∧ R4.r F v4 x.2.2.2.1 ∧ R5.r F v5 x.2.2.2.2.1 ∧ R6.r F v6 x.2.2.2.2.2 ∧
      σ2 = (((((w.set i (some v1)).set j (some v2)).set k (some v3)).set l (some v4)).set n (some v5)).set o (some v6)) := fun F1 H O sm W Q q => by
  obtain ⟨p, vs, rfl, hp, v1, _, rfl, r1, v2, _, rfl, r2, v3, _, rfl, r3, v4, _, rfl, r4, v5, _, rfl, r5, v6, rfl, r6⟩ := h
  exact ⟨p, _, rfl, SqT.of (W.sub _ _ (sm _ _ hp)), rfl, v1, _, rfl, v2, _, rfl, v3, _, rfl, v4, _, rfl, v5, _, rfl, v6, _, rfl, rfl, q _ ⟨v1, v2, v3, v4, v5, v6, r1, r2, r3, r4, r5, r6, rfl⟩⟩
theorem Go.up {g : TG} {w : L2.St} {k : L2.St → Prop} (h : Go g v w F k) (s : Same F F') : Go g v w F' k := fun F1 H O sm => h F1 H O (s.trans sm)

/-! comprehensions -/
def chk (xs : List α) : Option (List α) := if xs.length < lim then some xs else none
theorem chk_some {xs ys : List α} (h : chk xs = some ys) : ys = xs ∧ xs.length < lim := by
  unfold chk at h; split at h
  · cases h; exact ⟨rfl, by assumption⟩
  · cases h
def mpo (f : α → M S (Option β)) : List α → M S (List β)
  | [] => ret []
  | x :: xs => bnd (f x) fun o => bnd (mpo f xs) fun ys => ret (match o with | some y => y :: ys | none => ys)
theorem bnd_assoc {ε : Type} (m : M S α) (f : α → M S β) (g : β → S → Option ε) : bnd (bnd m f) g = bnd m fun a => bnd (f a) g := by
  funext s; unfold bnd; cases m s <;> rfl
theorem bnd_ret (a : α) (f : α → S → Option β) : bnd (ret a) f = f a := rfl
theorem mp_eq (f : α → M S β) : ∀ xs, mp f xs = mpo (fun x => bnd (f x) fun y => ret (some y)) xs
  | [] => rfl
  | x :: xs => by
    rw [mp, mpo, mp_eq f xs, bnd_assoc]; rfl
theorem mpf_eq (p : α → M S Bool) (f : α → M S β) : ∀ xs, mpf p f xs = mpo (fun x => bnd (p x) fun b => bif b then (bnd (f x) fun y => ret (some y)) else ret none) xs
  | [] => rfl
  | x :: xs => by
    rw [mpf, mpo, mpf_eq p f xs, bnd_assoc]
    congr 1; funext b
    cases b with
    | true => simp only [cond_true, bnd_assoc, bnd_ret]
    | false =>
      simp only [cond_false, bnd_ret]
      funext s; unfold bnd ret; generalize mpo _ xs s = r; cases r <;> rfl
/-- a comprehension's turn: the target, the test, the element -/
def Cb (g : TG) (tt : TT) (te : TE) (vs : List Nat) (v : V) (w : L2.St) (F : Hp) (A : Ow S) (T : Rl β) (m : M S (Option β)) : Prop :=
  ∀ s b s', m s = some (b, s') → ∀ F1 H c O, Same F F1 → A.o F1 s c → Wd F1 H (c ++ O) → ∀ (Qy : V → Hp → Prop) (Qn : Hp → Prop),
    (∀ F' H' c', Same F1 F' → A.o F' s' c' → Wd F' H' (c' ++ O) → match b with
      | none => Qn H'
      | some y => ∀ u, T.r F' u y → Qy u H') →
    g v w H fun σ2 H2 => wipe σ2 vs = w ∧ tt σ2 H2 fun b H3 => if b = true then te σ2 H3 Qy else Qn H3
variable {T' : Rl β} {g : TG} {vs : List Nat} {w : L2.St} {k : L2.St → Prop}
theorem cb_all (hg : Go g v w F k) (hw : ∀ σ2, k σ2 → wipe σ2 vs = w) (he : ∀ σ2, k σ2 → Ev te σ2 F A T' m') : Cb g tYes te vs v w F A T' (bnd m' fun y => ret (some y)) := fun s b s' hm F1 H c O sm ho W Qy Qn q => by
  obtain ⟨y, s1, h1, hm⟩ := bnd_some hm
  obtain ⟨rfl, rfl⟩ := ret_some hm
  exact hg F1 H _ sm W _ fun σ2 k2 => ⟨hw σ2 k2, iteT (B := Qn H) (he σ2 k2 s y _ h1 F1 H c O sm ho W _ fun u F2 H2 c2 s2 o2 W2 r2 => q F2 H2 c2 s2 o2 W2 u r2)⟩
theorem cb_if {mb : M S Bool} (hg : Go g v w F k) (hw : ∀ σ2, k σ2 → wipe σ2 vs = w) (ht : ∀ σ2, k σ2 → EvT tt σ2 F A mb) (he : ∀ σ2, k σ2 → Ev te σ2 F A T' m') :
    Cb g tt te vs v w F A T' (bnd mb fun b => bif b then (bnd m' fun y => ret (some y)) else ret none) := fun s b s' hm F1 H c O sm ho W Qy Qn q => by
  obtain ⟨t, s1, h1, hm⟩ := bnd_some hm
  refine hg F1 H _ sm W _ fun σ2 k2 => ⟨hw σ2 k2, ?_⟩
  refine ht σ2 k2 s t s1 h1 F1 H c O sm ho W _ fun F2 H2 c2 sm2 o2 W2 => ?_
  cases t with
  | true =>
    simp only [cond_true] at hm
    obtain ⟨y, s2, h2, hm⟩ := bnd_some hm
    obtain ⟨rfl, rfl⟩ := ret_some hm
    exact iteT (B := Qn H2) (he σ2 k2 s1 y _ h2 F2 H2 c2 O (sm.trans sm2) o2 W2 _ fun u F3 H3 c3 sm3 o3 W3 r3 => q F3 H3 c3 (sm2.trans sm3) o3 W3 u r3)
  | false =>
    simp only [cond_false] at hm
    obtain ⟨rfl, rfl⟩ := ret_some hm
    exact iteF (q F2 H2 c2 sm2 o2 W2)
theorem wipe_get : ∀ (σ : L2.St) (vs : List Nat) (i : Nat), (wipe σ vs)[i]? = if i ∈ vs then (if i < σ.length then some none else none) else σ[i]?
  | σ, [], i => by simp [wipe]
  | σ, v :: vs, i => by
    rw [wipe, List.getElem?_set, wipe_get σ vs i, wipe_length]
    by_cases h : v = i
    · subst h; by_cases h2 : v < σ.length <;> simp [h2]
    · have h' : ¬ i = v := fun e => h e.symm
      simp [h, h']
theorem wipe_s (σ : L2.St) (vs : List Nat) {i : Nat} {x : Option V} {τ : L2.St} (hi : i ∈ vs) (h : wipe τ vs = wipe σ vs) : wipe (τ.set i x) vs = wipe σ vs := by
  rw [← h]
  apply List.ext_getElem?
  intro j
  rw [wipe_get, wipe_get, List.length_set, List.getElem?_set]
  by_cases hj : j ∈ vs
  · simp [hj]
  · have : i ≠ j := fun e => hj (e ▸ hi)
    simp [hj, this]
theorem wipe_w (σ : L2.St) (vs : List Nat) : wipe (wipe σ vs) vs = wipe σ vs := by
  apply List.ext_getElem?
  intro j
  rw [wipe_get, wipe_get, wipe_length]
  by_cases hj : j ∈ vs <;> simp [hj, wipe_get]
theorem ev_σ {σ' : L2.St} (e : σ = σ') (h : Ev te σ' F A R m) : Ev te σ F A R m := e ▸ h
theorem et_σ {σ' : L2.St} {mb : M S Bool} (e : σ = σ') (h : EvT tt σ' F A mb) : EvT tt σ F A mb := e ▸ h
theorem perm_front (p : Addr × HO) (c O : Ch) : (p :: (c ++ O)).Perm (c ++ (p :: O)) := List.perm_middle.symm
theorem eo_lc {wi : TI} {f : α → M S (Option β)} (hi : EvI wi σ F A R ml) (hb : ∀ v x F', Same F F' → R.r F' v x → Cb g tt te vs v (wipe σ vs) F' A T' (f x)) :
    EvO (tLc wi g tt te vs) σ F A (oLst T') (bnd ml fun xs => bnd (lft (chk xs)) fun xs => mpo f xs) := fun s ys s' hm F1 H c O sm ho W Q q => by
  obtain ⟨xs0, s1, h1, hm⟩ := bnd_some hm
  obtain ⟨xs, s1', h2, hm2⟩ := bnd_some hm
  obtain ⟨h2', rfl⟩ := lft_some h2
  obtain ⟨rfl, hlen⟩ := chk_some h2'
  refine hi s _ _ h1 F1 H c O sm ho W _ fun J F2 H2 c2 sm2 o2 W2 ⟨G, Y, wk, hG, hY⟩ D hD => ?_
  refine lc_it wk (fun i H3 => ∃ zs ws t F3 c3 us, Same F2 F3 ∧ A.o F3 t c3 ∧ Wd F3 H3 ((D, .lst us) :: (c3 ++ O)) ∧ Paired (T'.r F3) us zs ∧ mpo f (xs.drop i) t = some (ws, s') ∧ ys = zs ++ ws ∧ zs.length ≤ i) ?_ ?_ ?_ ?_
  · exact ⟨[], ys, s1', F2, c2, [], SameR _, o2, W2.newO hD, .nil, hm2, rfl, Nat.le_refl _⟩
  · rintro i H3 _ ⟨zs, ws, t, F3, c3, us, s3, o3, W3, _⟩
    exact hG F3 H3 s3 W3.sub
  · rintro i x H3 H4 hi ⟨zs, ws, t, F3, c3, us, s3, o3, W3, rp, hmp, rfl, hzl⟩ y
    obtain ⟨F4, s4, W4, a, ha, ra⟩ := hY i H3 x H4 hi y F3 _ s3 W3
    have hd : xs.drop i = a :: xs.drop (i + 1) := by
      rw [List.drop_eq_getElem_cons hi]; congr 1; exact (List.getElem?_eq_some_iff.mp ha).2
    rw [hd] at hmp
    obtain ⟨o, t1, e1, hmp⟩ := bnd_some hmp
    obtain ⟨ws', t2, e2, hmp⟩ := bnd_some hmp
    obtain ⟨rfl, rfl⟩ := ret_some hmp
    refine hb x a F4 ((sm.trans sm2).trans (s3.trans s4)) ra t o t1 e1 F4 H4 c3 ((D, .lst us) :: O) (SameR _) (A.mono s4 o3) (W4.perm (perm_front _ _ _)) _ _ fun F5 H5 c5 s5 o5 W5 => ?_
    have W6 := W5.perm (perm_front _ _ _).symm
    cases o with
    | none => exact ⟨zs, ws', t1, F5, c5, us, s3.trans (s4.trans s5), o5, W6, paired_mono (fun _ _ => T'.mono (s4.trans s5)) rp, e2, rfl, by omega⟩
    | some b =>
      refine fun u ru => ⟨us, W6.hd, ?_, zs ++ [b], ws', t1, F5, c5, us ++ [u], s3.trans (s4.trans s5), o5, W6.set, (paired_mono (fun _ _ => T'.mono (s4.trans s5)) rp).snoc ru, e2, by simp, by simp; omega⟩
      rw [paired_len rp]; exact lim_le (by omega)
  · rintro H3 ⟨zs, ws, t, F3, c3, us, s3, o3, W3, rp, hmp, rfl, hzl⟩
    rw [List.drop_of_length_le (Nat.le_refl _)] at hmp
    obtain ⟨rfl, rfl⟩ := ret_some hmp
    refine q (.ref D) F3 H3 c3 [(D, .lst us)] (sm2.trans s3) o3 ⟨D, us, rfl, rfl, ?_⟩ W3
    simpa using rp
theorem eo_lcA {wi : TI} {f : α → M S β} (hi : EvI wi σ F A R ml) (hb : ∀ v x F', Same F F' → R.r F' v x → Cb g tYes te vs v (wipe σ vs) F' A T' (bnd (f x) fun y => ret (some y))) :
    EvO (tLc wi g tYes te vs) σ F A (oLst T') (bnd ml fun xs => bnd (lft (chk xs)) fun xs => mp f xs) := by
  have h := eo_lc hi hb
  rw [show (fun xs => bnd (lft (chk xs)) fun xs => mp f xs) = (fun xs : List α => bnd (lft (S := S) (chk xs)) fun xs => mpo (fun x => bnd (f x) fun y => ret (some y)) xs) from by funext xs; congr 1; funext ys; exact mp_eq f ys]
  exact h
theorem eo_lcF {wi : TI} {p : α → M S Bool} {f : α → M S β} (hi : EvI wi σ F A R ml) (hb : ∀ v x F', Same F F' → R.r F' v x → Cb g tt te vs v (wipe σ vs) F' A T' (bnd (p x) fun b => bif b then (bnd (f x) fun y => ret (some y)) else ret none)) :
    EvO (tLc wi g tt te vs) σ F A (oLst T') (bnd ml fun xs => bnd (lft (chk xs)) fun xs => mpf p f xs) := by
  have h := eo_lc hi hb
  rw [show (fun xs => bnd (lft (chk xs)) fun xs => mpf p f xs) = (fun xs : List α => bnd (lft (S := S) (chk xs)) fun xs => mpo (fun x => bnd (p x) fun b => bif b then (bnd (f x) fun y => ret (some y)) else ret none) xs) from by funext xs; congr 1; funext ys; exact mpf_eq p f ys]
  exact h
end
end T

/-! T3: blocks. -/
namespace T
open PySem L2
/-- what a block leaves, and what is wanted then -/
structure Post (Ω : Type) where
  p : Ω → Hp → Ch → Ends → Prop
  mono : ∀ {w : Ω} {F F' : Hp} {O : Ch} {D : Ends}, Same F F' → p w F O D → p w F' O D
section
variable {S S0 S1 T α β γ δ Z Ω ρ : Type}
def pRt (X : Ow S0) (R : Rl β) : Post (β × S0) where
  p := fun w F O D => ∀ v F' H' c', Same F F' → X.o F' w.2 c' → Wd F' H' (c' ++ O) → R.r F' v w.1 → D.rt v H'
  mono := fun s h v F' H' c' s' => h v F' H' c' (s.trans s')
def pNx (X : Ow S0) (Sl : Z → Hp → L2.St → Prop) : Post (Z × S0) where
  p := fun w F O D => ∀ F' H' c' σ', Same F F' → X.o F' w.2 c' → Wd F' H' (c' ++ O) → Sl w.1 F' σ' → D.nx σ' H'
  mono := fun s h F' H' c' σ' s' => h F' H' c' σ' (s.trans s')
def pFl (X : Ow S1) (Sl : Z → Hp → L2.St → Prop) (Y : Ow S0) (R : Rl β) : Post (Fl (Z × S1) (β × S0)) where
  p := fun w F O D => match w with
    | .nx q => (pNx X Sl).p q F O D
    | .rt b => (pRt Y R).p b F O D
  mono := fun {w F F' O D} s h => by
    cases w with
    | nx q => exact (pNx X Sl).mono s h
    | rt b => exact (pRt Y R).mono s h
/-- an owned new thing is handed back -/
def pRo (X : Ow S0) (Bf : V → Ow β) : Post (β × S0) where
  p := fun w F O D => ∀ v F' H' c' cb, Same F F' → X.o F' w.2 c' → (Bf v).o F' w.1 cb → Wd F' H' (cb ++ (c' ++ O)) → D.rt v H'
  mono := fun s h v F' H' c' cb s' => h v F' H' c' cb (s.trans s')
def B (t : TS) (σ : L2.St) (F : Hp) (A : Ow S) (P : Post Ω) (m : S → Option Ω) : Prop :=
  ∀ s w, m s = some w → ∀ F1 H c O, Same F F1 → A.o F1 s c → Wd F1 H (c ++ O) → ∀ D : Ends, P.p w F1 O D → t D σ H
/-- what is left of the owned state at an end -/
structure Pr (A : Ow S) (X : Ow S0) (π : S → S0) : Prop where
  pr : ∀ {F : Hp} {s : S} {c : Ch}, A.o F s c → ∃ c1 c2, c.Perm (c1 ++ c2) ∧ X.o F (π s) c1
theorem pr_id {A : Ow S} : Pr A A (fun s => s) := ⟨fun {F s c} h => ⟨c, [], by simp, h⟩⟩
theorem pr_emp {A : Ow S} : Pr A emp (fun _ => ()) := ⟨fun {F s c} _ => ⟨[], c, by simp, rfl⟩⟩
theorem pr_l {A : Ow S} {C : Ow T} {X : Ow S0} {π : S → S0} (h : Pr A X π) : Pr (star A C) X (fun s => π s.1) := ⟨fun {F s c} ⟨ca, cb, e, ha, hb⟩ => by
  obtain ⟨c1, c2, pm, hx⟩ := h.pr ha
  exact ⟨c1, c2 ++ cb, by rw [e, ← List.append_assoc]; exact pm.append_right cb, hx⟩⟩
theorem Wd.pr {A : Ow S} {X : Ow S0} {π : S → S0} (h : Pr A X π) {F H : Hp} {s : S} {c O : Ch} (ho : A.o F s c) (W : Wd F H (c ++ O)) : ∃ c1, X.o F (π s) c1 ∧ Wd F H (c1 ++ O) := by
  obtain ⟨c1, c2, pm, hx⟩ := h.pr ho
  refine ⟨c1, hx, (W.perm (pm.append_right O)).sublist ?_⟩
  exact List.Sublist.append (List.sublist_append_left c1 c2) (List.Sublist.refl O)
variable {te ta tb : TE} {tt : TT} {ar : TA} {σ : L2.St} {F F' : Hp} {A : Ow S} {R : Rl α} {R' : Rl β} {U : Rl γ} {m : M S α} {m' : M S β} {v : V} {u t e w : TS} {P : Post Ω} {K : PySem.W.Frag}
theorem B.up {h : S → Option Ω} (b : B u σ F A P h) (s : Same F F') : B u σ F' A P h := fun s0 w e F1 H c O sm => b s0 w e F1 H c O (s.trans sm)
theorem b_σ {σ' : L2.St} {h : S → Option Ω} (e : σ = σ') (b : B u σ' F A P h) : B u σ F A P h := e ▸ b
/-! simple statements, each with what follows -/
theorem b_set {i : Nat} {f : α → S → Option Ω} (he : Ev te σ F A R m) (k : ∀ v x F', Same F F' → R.r F' v x → B u (σ.set i (some v)) F' A P (f x)) : B (tSeq (tAsg te (gName i)) u) σ F A P (bnd m f) := fun s w hm F1 H c O sm ho W D q => by
  obtain ⟨x, s1, h1, hm⟩ := bnd_some hm
  exact he s x s1 h1 F1 H c O sm ho W _ fun v F2 H2 c2 s2 o2 W2 r2 => k v x F2 (sm.trans s2) r2 s1 w hm F2 H2 c2 O (SameR _) o2 W2 D (P.mono s2 q)
theorem b_unp {g : TG} {f : α → S → Option Ω} {k : V → α → Hp → L2.St → Prop} (he : Ev te σ F A R m) (hg : ∀ v x F', Same F F' → R.r F' v x → Go g v σ F' (k v x F')) (hk : ∀ v x F' σ2, Same F F' → R.r F' v x → k v x F' σ2 → B u σ2 F' A P (f x)) :
    B (tSeq (tAsg te g) u) σ F A P (bnd m f) := fun s w hm F1 H c O sm ho W D q => by
  obtain ⟨x, s1, h1, hm⟩ := bnd_some hm
  refine he s x s1 h1 F1 H c O sm ho W _ fun v F2 H2 c2 s2 o2 W2 r2 => ?_
  exact hg v x F2 (sm.trans s2) r2 F2 H2 _ (SameR _) W2 _ fun σ2 k2 => hk v x F2 σ2 (sm.trans s2) r2 k2 s1 w hm F2 H2 c2 O (SameR _) o2 W2 D (P.mono s2 q)
/-- a new owned thing at a name -/
def nw {S T Ω : Type} (k : S × T → Option Ω) (t : T) : S → Option Ω := fun s => k (s, t)
theorem b_new {i : Nat} {Bf : V → Ow β} {f : S × β → Option Ω} (he : EvO te σ F A Bf m') (k : ∀ v F', Same F F' → B u (σ.set i (some v)) F' (star A (Bf v)) P f) : B (tSeq (tAsg te (gName i)) u) σ F A P (bnd m' (nw f)) := fun s w hm F1 H c O sm ho W D q => by
  obtain ⟨x, s1, h1, hm⟩ := bnd_some hm
  refine he s x s1 h1 F1 H c O sm ho W _ fun v F2 H2 c2 cb s2 o2 ob W2 => ?_
  refine k v F2 (sm.trans s2) (s1, x) w hm F2 H2 (c2 ++ cb) O (SameR _) ⟨c2, cb, rfl, o2, ob⟩ (W2.perm ?_) D (P.mono s2 q)
  rw [← List.append_assoc]; exact List.perm_append_comm.append_right O
/-- the last owned list is frozen -/
def fz {S T Ω : Type} (k : T → S → Option Ω) : S × T → Option Ω := fun p => k p.2 p.1
theorem b_fz {v : V} {f : List α → S → Option Ω} (k : ∀ xs F', Same F F' → (rLst R).r F' v xs → B u σ F' A P (f xs)) : B u σ F (star A (oLst R v)) P (fz f) := fun s w hm F1 H c O sm ho W D q => by
  obtain ⟨c1, c2, rfl, o1, l, vs, rfl, rfl, rp⟩ := ho
  have W2 : Wd F1 H ((l, .lst vs) :: (c1 ++ O)) := W.perm (by simpa using (List.perm_middle (l₁ := c1) (a := (l, HO.lst vs)) (l₂ := O)))
  have s2 := Wd.frzS W2
  exact k s.2 _ (sm.trans s2) ⟨l, vs, rfl, upd_same, paired_mono (fun _ _ => R.mono s2) rp⟩ s.1 w hm _ H c1 O (SameR _) (A.mono s2 o1) (Wd.frz W2) D (P.mono s2 q)
/-- the last owned thing is not wanted any more -/
def dr {S T Ω : Type} (k : S → Option Ω) : S × T → Option Ω := fun p => k p.1
theorem b_dr {C : Ow T} {f : S → Option Ω} (k : B u σ F A P f) : B u σ F (star A C) P (dr f) := fun s w hm F1 H c O sm ho W D q => by
  obtain ⟨c1, c2, rfl, o1, _⟩ := ho
  exact k s.1 w hm F1 H c1 O sm o1 (W.sublist (List.Sublist.append (List.sublist_append_left c1 c2) (List.Sublist.refl O))) D q
theorem b_expr {f : α → S → Option Ω} (he : Ev te σ F A R m) (k : ∀ x F', Same F F' → B u σ F' A P (f x)) : B (tSeq (tDrop te) u) σ F A P (bnd m f) := fun s w hm F1 H c O sm ho W D q => by
  obtain ⟨x, s1, h1, hm⟩ := bnd_some hm
  exact he s x s1 h1 F1 H c O sm ho W _ fun v F2 H2 c2 s2 o2 W2 r2 => k x F2 (sm.trans s2) s1 w hm F2 H2 c2 O (SameR _) o2 W2 D (P.mono s2 q)
theorem b_ret {X : Ow S0} {π : S → S0} (pr : Pr A X π) (he : Ev te σ F A R m) : B (tSeq (tRet te) u) σ F A (pRt X R) (bnd m fun x s => some (x, π s)) := fun s w hm F1 H c O sm ho W D q => by
  obtain ⟨x, s1, h1, hm⟩ := bnd_some hm
  cases hm
  refine he s x s1 h1 F1 H c O sm ho W _ fun v F2 H2 c2 s2 o2 W2 r2 => ?_
  obtain ⟨c3, o3, W3⟩ := Wd.pr pr o2 W2
  exact q v F2 H2 c3 s2 o3 W3 r2
theorem b_reto {X : Ow S0} {π : S → S0} {Bf : V → Ow β} (pr : Pr A X π) (he : EvO te σ F A Bf m') : B (tSeq (tRet te) u) σ F A (pRo X Bf) (bnd m' fun x s => some (x, π s)) := fun s w hm F1 H c O sm ho W D q => by
  obtain ⟨x, s1, h1, hm⟩ := bnd_some hm
  cases hm
  refine he s x s1 h1 F1 H c O sm ho W _ fun v F2 H2 c2 cb s2 o2 ob W2 => ?_
  obtain ⟨c1, c4, pm, hx⟩ := pr.pr o2
  refine q v F2 H2 c1 cb s2 hx ob ((W2.perm ((pm.append_right O).append_left cb)).sublist ?_)
  exact List.Sublist.append (List.Sublist.refl cb) (List.Sublist.append (List.sublist_append_left c1 c4) (List.Sublist.refl O))
/-- the def's end without a return -/
theorem b_end {X : Ow S0} {π : S → S0} (pr : Pr A X π) : B tNext σ F A (pNx X fun _ _ _ => True) (fun s => some ((), π s)) := fun s w hm F1 H c O sm ho W D q => by
  cases hm
  obtain ⟨c3, o3, W3⟩ := Wd.pr pr ho W
  exact q F1 H c3 σ (SameR _) o3 W3 trivial
theorem b_nx {X : Ow S0} {π : S → S0} {Sl : Z → Hp → L2.St → Prop} {z : Z} (pr : Pr A X π) (h : ∀ F', Same F F' → Sl z F' σ) : B tNext σ F A (pNx X Sl) (fun s => some (z, π s)) := fun s w hm F1 H c O sm ho W D q => by
  cases hm
  obtain ⟨c3, o3, W3⟩ := Wd.pr pr ho W
  exact q F1 H c3 σ (SameR _) o3 W3 (h F1 sm)
theorem b_nxF {X : Ow S1} {Y : Ow S0} {π : S → S1} {Sl : Z → Hp → L2.St → Prop} {z : Z} {V' : Rl β} (pr : Pr A X π) (h : ∀ F', Same F F' → Sl z F' σ) : B tNext σ F A (pFl X Sl Y V') (fun s => some (.nx (z, π s))) := fun s w hm F1 H c O sm ho W D q => by
  cases hm
  obtain ⟨c3, o3, W3⟩ := Wd.pr pr ho W
  exact q F1 H c3 σ (SameR _) o3 W3 (h F1 sm)
/-- a block that returns, where others go on -/
def rtF {S κ ρ : Type} (m : S → Option ρ) : S → Option (Fl κ ρ) := fun s => (m s).map .rt
theorem b_rtF {X : Ow S1} {Y : Ow S0} {Sl : Z → Hp → L2.St → Prop} {V' : Rl β} {f : S → Option (β × S0)} (h : B u σ F A (pRt Y V') f) : B u σ F A (pFl X Sl Y V') (rtF f) := fun s w hm F1 H c O sm ho W D q => by
  unfold rtF at hm
  cases e1 : f s with
  | none => rw [e1] at hm; cases hm
  | some r => rw [e1] at hm; cases hm; exact h s r e1 F1 H c O sm ho W D q
/-- a block that goes on, where others return -/
def nxF {S κ ρ : Type} (m : S → Option κ) : S → Option (Fl κ ρ) := fun s => (m s).map .nx
theorem b_nxF' {X : Ow S1} {Y : Ow S0} {Sl : Z → Hp → L2.St → Prop} {V' : Rl β} {f : S → Option (Z × S1)} (h : B u σ F A (pNx X Sl) f) : B u σ F A (pFl X Sl Y V') (nxF f) := fun s w hm F1 H c O sm ho W D q => by
  unfold nxF at hm
  cases e1 : f s with
  | none => rw [e1] at hm; cases hm
  | some r => rw [e1] at hm; cases hm; exact h s r e1 F1 H c O sm ho W D q
/-! ifs -/
/-- a test that may lead to a return; else on -/
theorem b_ifR {mb : M S Bool} {X : Ow S0} {f g : S → Option (β × S0)} (hc : EvT tt σ F A mb) (ht : B t σ F A (pRt X R') f) (hw : B w σ F A (pRt X R') g) : B (tSeq (tIfS tt t tNext) w) σ F A (pRt X R') (bnd mb fun b => bif b then f else g) := fun s r hm F1 H c O sm ho W D q => by
  obtain ⟨b, s1, h1, hm⟩ := bnd_some hm
  refine hc s b s1 h1 F1 H c O sm ho W _ fun F2 H2 c2 s2 o2 W2 => ?_
  cases b with
  | true => exact iteT (ht s1 r hm F2 H2 c2 O (sm.trans s2) o2 W2 _ ((pRt X R').mono s2 q))
  | false => exact iteF (hw s1 r hm F2 H2 c2 O (sm.trans s2) o2 W2 D ((pRt X R').mono s2 q))
theorem b_ifRF {mb : M S Bool} {X : Ow S1} {Y : Ow S0} {Sl : Z → Hp → L2.St → Prop} {f : S → Option (β × S0)} {g : S → Option (Fl (Z × S1) (β × S0))} (hc : EvT tt σ F A mb) (ht : B t σ F A (pRt Y R') f) (hw : B w σ F A (pFl X Sl Y R') g) :
    B (tSeq (tIfS tt t tNext) w) σ F A (pFl X Sl Y R') (bnd mb fun b => bif b then rtF f else g) := fun s r hm F1 H c O sm ho W D q => by
  obtain ⟨b, s1, h1, hm⟩ := bnd_some hm
  refine hc s b s1 h1 F1 H c O sm ho W _ fun F2 H2 c2 s2 o2 W2 => ?_
  cases b with
  | true =>
    simp only [cond_true] at hm
    unfold rtF at hm
    cases e1 : f s1 with
    | none => rw [e1] at hm; cases hm
    | some r' => rw [e1] at hm; cases hm; exact iteT (ht s1 r' e1 F2 H2 c2 O (sm.trans s2) o2 W2 _ ((pRt Y R').mono s2 q))
  | false => exact iteF (hw s1 r hm F2 H2 c2 O (sm.trans s2) o2 W2 D ((pFl X Sl Y R').mono s2 q))
/-- both ways return -/
theorem b_if2 {mb : M S Bool} {X : Ow S0} {f g : S → Option (β × S0)} (hc : EvT tt σ F A mb) (ht : B t σ F A (pRt X R') f) (he : B e σ F A (pRt X R') g) : B (tSeq (tIfS tt t e) w) σ F A (pRt X R') (bnd mb fun b => bif b then f else g) := fun s r hm F1 H c O sm ho W D q => by
  obtain ⟨b, s1, h1, hm⟩ := bnd_some hm
  refine hc s b s1 h1 F1 H c O sm ho W _ fun F2 H2 c2 s2 o2 W2 => ?_
  cases b with
  | true => exact iteT (ht s1 r hm F2 H2 c2 O (sm.trans s2) o2 W2 _ ((pRt X R').mono s2 q))
  | false => exact iteF (he s1 r hm F2 H2 c2 O (sm.trans s2) o2 W2 _ ((pRt X R').mono s2 q))
/-- both ways go on to a common place -/
theorem b_ifJ {mb : M S Bool} {Sl : Z → Hp → L2.St → Prop} {f g : M S Z} {h : Z → S → Option Ω} (hc : EvT tt σ F A mb) (ht : B t σ F A (pNx A Sl) f) (he : B e σ F A (pNx A Sl) g) (k : ∀ z F' σ', Same F F' → Sl z F' σ' → B w σ' F' A P (h z)) :
    B (Evl.tCut (tIfS tt t e) w) σ F A P (bnd (bnd mb fun b => bif b then f else g) h) := fun s r hm F1 H c O sm ho W D q => by
  obtain ⟨z, s2, h1, hm⟩ := bnd_some hm
  obtain ⟨b, s1, h1, h2⟩ := bnd_some h1
  refine ⟨fun σ' H' => ∃ F' c', Same F1 F' ∧ A.o F' s2 c' ∧ Wd F' H' (c' ++ O) ∧ Sl z F' σ', ?_, fun σ' H' ⟨F', c', s', o', W', sl⟩ => k z F' σ' (sm.trans s') sl s2 r hm F' H' c' O (SameR _) o' W' D (P.mono s' q)⟩
  refine hc s b s1 h1 F1 H c O sm ho W _ fun F2 H2 c2 sm2 o2 W2 => ?_
  cases b with
  | true => exact iteT (ht s1 (z, s2) h2 F2 H2 c2 O (sm.trans sm2) o2 W2 _ fun F3 H3 c3 σ3 s3 o3 W3 sl => ⟨F3, c3, sm2.trans s3, o3, W3, sl⟩)
  | false => exact iteF (he s1 (z, s2) h2 F2 H2 c2 O (sm.trans sm2) o2 W2 _ fun F3 H3 c3 σ3 s3 o3 W3 sl => ⟨F3, c3, sm2.trans s3, o3, W3, sl⟩)
/-- ways that return, or go on to a common place -/
theorem b_ifE {mb : M S Bool} {Sl : Z → Hp → L2.St → Prop} {X : Ow S0} {f g : S → Option (Fl (Z × S) (β × S0))} {h : Z → S → Option (β × S0)} (hc : EvT tt σ F A mb) (ht : B t σ F A (pFl A Sl X R') f) (he : B e σ F A (pFl A Sl X R') g)
    (k : ∀ z F' σ', Same F F' → Sl z F' σ' → B w σ' F' A (pRt X R') (h z)) : B (Evl.tCut (tIfS tt t e) w) σ F A (pRt X R') (fthn (bnd mb fun b => bif b then f else g) h) := fun s r hm F1 H c O sm ho W D q => by
  unfold fthn at hm
  cases e0 : bnd mb (fun b => bif b then f else g) s with
  | none => rw [e0] at hm; cases hm
  | some fl =>
    rw [e0] at hm
    obtain ⟨b, s1, h1, h2⟩ := bnd_some e0
    cases fl with
    | nx z =>
      refine ⟨fun σ' H' => ∃ F' c', Same F1 F' ∧ A.o F' z.2 c' ∧ Wd F' H' (c' ++ O) ∧ Sl z.1 F' σ', ?_, fun σ' H' ⟨F', c', s', o', W', sl⟩ => k z.1 F' σ' (sm.trans s') sl z.2 r hm F' H' c' O (SameR _) o' W' D ((pRt X R').mono s' q)⟩
      refine hc s b s1 h1 F1 H c O sm ho W _ fun F2 H2 c2 sm2 o2 W2 => ?_
      cases b with
      | true => exact iteT (ht s1 _ h2 F2 H2 c2 O (sm.trans sm2) o2 W2 _ fun F3 H3 c3 σ3 s3 o3 W3 sl => ⟨F3, c3, sm2.trans s3, o3, W3, sl⟩)
      | false => exact iteF (he s1 _ h2 F2 H2 c2 O (sm.trans sm2) o2 W2 _ fun F3 H3 c3 σ3 s3 o3 W3 sl => ⟨F3, c3, sm2.trans s3, o3, W3, sl⟩)
    | rt b' =>
      obtain rfl : b' = r := Option.some.inj hm
      refine ⟨fun σ' H' => False, ?_, fun σ' H' f => f.elim⟩
      refine hc s b s1 h1 F1 H c O sm ho W _ fun F2 H2 c2 sm2 o2 W2 => ?_
      cases b with
      | true => exact iteT (ht s1 _ h2 F2 H2 c2 O (sm.trans sm2) o2 W2 _ ((pRt X R').mono sm2 q))
      | false => exact iteF (he s1 _ h2 F2 H2 c2 O (sm.trans sm2) o2 W2 _ ((pRt X R').mono sm2 q))
theorem b_ifEF {mb : M S Bool} {Z' : Type} {Sl : Z → Hp → L2.St → Prop} {Sl' : Z' → Hp → L2.St → Prop} {X : Ow S0} {Y : Ow S1} {f g : S → Option (Fl (Z × S) (β × S0))} {h : Z → S → Option (Fl (Z' × S1) (β × S0))} (hc : EvT tt σ F A mb) (ht : B t σ F A (pFl A Sl X R') f) (he : B e σ F A (pFl A Sl X R') g)
    (k : ∀ z F' σ', Same F F' → Sl z F' σ' → B w σ' F' A (pFl Y Sl' X R') (h z)) : B (Evl.tCut (tIfS tt t e) w) σ F A (pFl Y Sl' X R') (fthnF (bnd mb fun b => bif b then f else g) h) := fun s r hm F1 H c O sm ho W D q => by
  unfold fthnF at hm
  cases e0 : bnd mb (fun b => bif b then f else g) s with
  | none => rw [e0] at hm; cases hm
  | some fl =>
    rw [e0] at hm
    obtain ⟨b, s1, h1, h2⟩ := bnd_some e0
    cases fl with
    | nx z =>
      refine ⟨fun σ' H' => ∃ F' c', Same F1 F' ∧ A.o F' z.2 c' ∧ Wd F' H' (c' ++ O) ∧ Sl z.1 F' σ', ?_, fun σ' H' ⟨F', c', s', o', W', sl⟩ => k z.1 F' σ' (sm.trans s') sl z.2 r hm F' H' c' O (SameR _) o' W' D ((pFl Y Sl' X R').mono s' q)⟩
      refine hc s b s1 h1 F1 H c O sm ho W _ fun F2 H2 c2 sm2 o2 W2 => ?_
      cases b with
      | true => exact iteT (ht s1 _ h2 F2 H2 c2 O (sm.trans sm2) o2 W2 _ fun F3 H3 c3 σ3 s3 o3 W3 sl => ⟨F3, c3, sm2.trans s3, o3, W3, sl⟩)
      | false => exact iteF (he s1 _ h2 F2 H2 c2 O (sm.trans sm2) o2 W2 _ fun F3 H3 c3 σ3 s3 o3 W3 sl => ⟨F3, c3, sm2.trans s3, o3, W3, sl⟩)
    | rt b' =>
      obtain rfl : Fl.rt b' = r := Option.some.inj hm
      refine ⟨fun σ' H' => False, ?_, fun σ' H' f => f.elim⟩
      refine hc s b s1 h1 F1 H c O sm ho W _ fun F2 H2 c2 sm2 o2 W2 => ?_
      cases b with
      | true => exact iteT (ht s1 _ h2 F2 H2 c2 O (sm.trans sm2) o2 W2 _ ((pRt X R').mono sm2 q))
      | false => exact iteF (he s1 _ h2 F2 H2 c2 O (sm.trans sm2) o2 W2 _ ((pRt X R').mono sm2 q))
/-! for -/
def tGo (g : TG) (v : V) (t : TS) : TS := fun D σ H => g v σ H fun σ2 H2 => t D σ2 H2
theorem b_go {g : TG} {k : L2.St → Prop} {f : S → Option Ω} (hg : Go g v σ F k) (h : ∀ σ2, k σ2 → B u σ2 F A P f) : B (tGo g v u) σ F A P f := fun s r hm F1 H c O sm ho W D q =>
  hg F1 H _ sm W _ fun σ2 k2 => h σ2 k2 s r hm F1 H c O sm ho W D q
theorem fd_cons {f : Z → α → M S Z} {xs : List α} {x : α} {i : Nat} {z : Z} {s : S} {r : Z × S} (hx : xs[i]? = some x) (h : fd f z (xs.drop i) s = some r) : ∃ z' s', f z x s = some (z', s') ∧ fd f z' (xs.drop (i + 1)) s' = some r := by
  have hi := (List.getElem?_eq_some_iff.mp hx).1
  have hd : xs.drop i = x :: xs.drop (i + 1) := by
    rw [List.drop_eq_getElem_cons hi]; congr 1; exact (List.getElem?_eq_some_iff.mp hx).2
  rw [hd] at h
  exact bnd_some h
theorem b_for {wi : TI} {g : TG} {f : Z → α → M S Z} {z0 : Z} {Sl : Z → Hp → L2.St → Prop} {h : Z → S → Option Ω} {ml : M S (List α)} (hi : EvI wi σ F A R ml) (h0 : ∀ F', Same F F' → Sl z0 F' σ)
    (hb : ∀ z x v F' σ', Same F F' → Sl z F' σ' → R.r F' v x → B (tGo g v t) σ' F' A (pNx A Sl) (f z x)) (k : ∀ z F' σ', Same F F' → Sl z F' σ' → B w σ' F' A P (h z))
    (hS : ∀ z F F' σ', Same F F' → Sl z F σ' → Sl z F' σ') : B (tSeq (tFor wi g t) w) σ F A P (bnd ml fun xs => bnd (fd f z0 xs) h) := fun s r hm F1 H c O sm ho W D q => by
  obtain ⟨xs, s1, h1, hm⟩ := bnd_some hm
  obtain ⟨zf, sf, h2, hm⟩ := bnd_some hm
  refine hi s xs s1 h1 F1 H c O sm ho W _ fun J F2 H2 c2 sm2 o2 W2 ⟨G, Y, wk, hG, hY⟩ => ?_
  refine for_it wk (fun i σ3 H3 => ∃ z s3 F3 c3, Same F2 F3 ∧ A.o F3 s3 c3 ∧ Wd F3 H3 (c3 ++ O) ∧ Sl z F3 σ3 ∧ fd f z (xs.drop i) s3 = some (zf, sf)) ?_ ?_ ?_ ?_
  · exact ⟨z0, s1, F2, c2, SameR _, o2, W2, h0 F2 (sm.trans sm2), h2⟩
  · rintro i σ3 H3 _ ⟨z, s3, F3, c3, sm3, o3, W3, _⟩
    exact hG F3 H3 sm3 W3.sub
  · rintro i x σ3 H3 H4 hlt ⟨z, s3, F3, c3, sm3, o3, W3, sl, hfd⟩ y
    obtain ⟨F4, sm4, W4, a, ha, ra⟩ := hY i H3 x H4 hlt y F3 _ sm3 W3
    obtain ⟨z', s4, e1, e2⟩ := fd_cons ha hfd
    exact hb z a x F4 σ3 ((sm.trans sm2).trans (sm3.trans sm4)) (hS _ _ _ _ sm4 sl) ra s3 (z', s4) e1 F4 H4 c3 O (SameR _) (A.mono sm4 o3) W4 _ fun F5 H5 c5 σ5 s5 o5 W5 sl5 => ⟨z', s4, F5, c5, sm3.trans (sm4.trans s5), o5, W5, sl5, e2⟩
  · rintro σ3 H3 ⟨z, s3, F3, c3, sm3, o3, W3, sl, hfd⟩
    rw [List.drop_of_length_le (Nat.le_refl _)] at hfd
    cases hfd
    exact k _ F3 σ3 ((sm.trans sm2).trans sm3) sl _ r hm F3 H3 c3 O (SameR _) o3 W3 D (P.mono (sm2.trans sm3) q)
theorem fdE_cons {f : Z → α → S → Option (Fl (Z × S) ρ)} {xs : List α} {x : α} {i : Nat} {z : Z} {s : S} {r : Fl (Z × S) ρ} (hx : xs[i]? = some x) (h : fdE f z (xs.drop i) s = some r) :
    (∃ q, f z x s = some (.nx q) ∧ fdE f q.1 (xs.drop (i + 1)) q.2 = some r) ∨ ∃ b, f z x s = some (.rt b) ∧ r = .rt b := by
  have hi := (List.getElem?_eq_some_iff.mp hx).1
  have hd : xs.drop i = x :: xs.drop (i + 1) := by
    rw [List.drop_eq_getElem_cons hi]; congr 1; exact (List.getElem?_eq_some_iff.mp hx).2
  rw [hd] at h
  rw [fdE] at h
  cases e : f z x s with
  | none => rw [e] at h; cases h
  | some fl =>
    rw [e] at h
    cases fl with
    | nx q => exact .inl ⟨q, rfl, h⟩
    | rt b => exact .inr ⟨b, rfl, (Option.some.inj h).symm⟩
/-- a loop whose turns may return: what is wanted of an end is told by Pe -/
theorem for_E {wi : TI} {g : TG} {f : Z → α → S → Option (Fl (Z × S) (β × S0))} {z0 : Z} {Sl : Z → Hp → L2.St → Prop} {X : Ow S0} {ml : M S (List α)} (hi : EvI wi σ F A R ml) (h0 : ∀ F', Same F F' → Sl z0 F' σ)
    (hb : ∀ z x v F' σ', Same F F' → Sl z F' σ' → R.r F' v x → B (tGo g v t) σ' F' A (pFl A Sl X R') (f z x)) (hS : ∀ z F F' σ', Same F F' → Sl z F σ' → Sl z F' σ')
    {s s1 : S} {xs : List α} {fl : Fl (Z × S) (β × S0)} (h1 : ml s = some (xs, s1)) (h2 : fdE f z0 xs s1 = some fl) {F1 H : Hp} {c O : Ch} (sm : Same F F1) (ho : A.o F1 s c) (W : Wd F1 H (c ++ O)) (D : Ends)
    (q : match fl with
      | .nx z => ∀ F' H' c' σ', Same F1 F' → A.o F' z.2 c' → Wd F' H' (c' ++ O) → Sl z.1 F' σ' → D.nx σ' H'
      | .rt b => (pRt X R').p b F1 O D) : tFor wi g t D σ H := by
  refine hi s xs s1 h1 F1 H c O sm ho W _ fun J F2 H2 c2 sm2 o2 W2 ⟨G, Y, wk, hG, hY⟩ => ?_
  refine for_it wk (fun i σ3 H3 => ∃ z s3 F3 c3, Same F2 F3 ∧ A.o F3 s3 c3 ∧ Wd F3 H3 (c3 ++ O) ∧ Sl z F3 σ3 ∧ fdE f z (xs.drop i) s3 = some fl) ?_ ?_ ?_ ?_
  · exact ⟨z0, s1, F2, c2, SameR _, o2, W2, h0 F2 (sm.trans sm2), h2⟩
  · rintro i σ3 H3 _ ⟨z, s3, F3, c3, sm3, o3, W3, _⟩
    exact hG F3 H3 sm3 W3.sub
  · rintro i x σ3 H3 H4 hlt ⟨z, s3, F3, c3, sm3, o3, W3, sl, hfd⟩ y
    obtain ⟨F4, sm4, W4, a, ha, ra⟩ := hY i H3 x H4 hlt y F3 _ sm3 W3
    rcases fdE_cons ha hfd with ⟨q', e1, e2⟩ | ⟨b, e1, e2⟩
    · exact hb z a x F4 σ3 ((sm.trans sm2).trans (sm3.trans sm4)) (hS _ _ _ _ sm4 sl) ra s3 _ e1 F4 H4 c3 O (SameR _) (A.mono sm4 o3) W4 _ fun F5 H5 c5 σ5 s5 o5 W5 sl5 => ⟨q'.1, q'.2, F5, c5, sm3.trans (sm4.trans s5), o5, W5, sl5, e2⟩
    · subst e2
      exact hb z a x F4 σ3 ((sm.trans sm2).trans (sm3.trans sm4)) (hS _ _ _ _ sm4 sl) ra s3 _ e1 F4 H4 c3 O (SameR _) (A.mono sm4 o3) W4 _ ((pRt X R').mono (sm2.trans (sm3.trans sm4)) q)
  · rintro σ3 H3 ⟨z, s3, F3, c3, sm3, o3, W3, sl, hfd⟩
    rw [List.drop_of_length_le (Nat.le_refl _)] at hfd
    obtain rfl : Fl.nx (z, s3) = fl := by rw [fdE] at hfd; exact Option.some.inj hfd
    exact q F3 H3 c3 σ3 (sm2.trans sm3) o3 W3 sl
theorem b_forE {wi : TI} {g : TG} {f : Z → α → S → Option (Fl (Z × S) (β × S0))} {z0 : Z} {Sl : Z → Hp → L2.St → Prop} {X : Ow S0} {h : Z → S → Option (β × S0)} {ml : M S (List α)} (hi : EvI wi σ F A R ml) (h0 : ∀ F', Same F F' → Sl z0 F' σ)
    (hb : ∀ z x v F' σ', Same F F' → Sl z F' σ' → R.r F' v x → B (tGo g v t) σ' F' A (pFl A Sl X R') (f z x)) (k : ∀ z F' σ', Same F F' → Sl z F' σ' → B w σ' F' A (pRt X R') (h z))
    (hS : ∀ z F F' σ', Same F F' → Sl z F σ' → Sl z F' σ') : B (tSeq (tFor wi g t) w) σ F A (pRt X R') (bnd ml fun xs => fthn (fdE f z0 xs) h) := fun s r hm F1 H c O sm ho W D q => by
  obtain ⟨xs, s1, h1, hm⟩ := bnd_some hm
  unfold fthn at hm
  cases e0 : fdE f z0 xs s1 with
  | none => rw [e0] at hm; cases hm
  | some fl =>
    rw [e0] at hm
    refine for_E hi h0 hb hS h1 e0 sm ho W _ ?_
    cases fl with
    | nx z => exact fun F' H' c' σ' s' o' W' sl => k z.1 F' σ' (sm.trans s') sl z.2 r hm F' H' c' O (SameR _) o' W' D ((pRt X R').mono s' q)
    | rt b =>
      obtain rfl : b = r := Option.some.inj hm
      exact q
theorem b_forEF {Z' : Type} {wi : TI} {g : TG} {f : Z → α → S → Option (Fl (Z × S) (β × S0))} {z0 : Z} {Sl : Z → Hp → L2.St → Prop} {Sl' : Z' → Hp → L2.St → Prop} {X : Ow S0} {Y : Ow S1} {h : Z → S → Option (Fl (Z' × S1) (β × S0))} {ml : M S (List α)} (hi : EvI wi σ F A R ml) (h0 : ∀ F', Same F F' → Sl z0 F' σ)
    (hb : ∀ z x v F' σ', Same F F' → Sl z F' σ' → R.r F' v x → B (tGo g v t) σ' F' A (pFl A Sl X R') (f z x)) (k : ∀ z F' σ', Same F F' → Sl z F' σ' → B w σ' F' A (pFl Y Sl' X R') (h z))
    (hS : ∀ z F F' σ', Same F F' → Sl z F σ' → Sl z F' σ') : B (tSeq (tFor wi g t) w) σ F A (pFl Y Sl' X R') (bnd ml fun xs => fthnF (fdE f z0 xs) h) := fun s r hm F1 H c O sm ho W D q => by
  obtain ⟨xs, s1, h1, hm⟩ := bnd_some hm
  unfold fthnF at hm
  cases e0 : fdE f z0 xs s1 with
  | none => rw [e0] at hm; cases hm
  | some fl =>
    rw [e0] at hm
    refine for_E hi h0 hb hS h1 e0 sm ho W _ ?_
    cases fl with
    | nx z => exact fun F' H' c' σ' s' o' W' sl => k z.1 F' σ' (sm.trans s') sl z.2 r hm F' H' c' O (SameR _) o' W' D ((pFl Y Sl' X R').mono s' q)
    | rt b =>
      obtain rfl : Fl.rt b = r := Option.some.inj hm
      exact q
/-! while -/
theorem b_while {n : Nat} {z0 : Z} {cnd : Z → M S Bool} {f : Z → M S Z} {Sl : Z → Hp → L2.St → Prop} {h : Z → S → Option Ω} (h0 : ∀ F', Same F F' → Sl z0 F' σ) (hc : ∀ z F' σ', Same F F' → Sl z F' σ' → EvT tt σ' F' A (cnd z))
    (hb : ∀ z F' σ', Same F F' → Sl z F' σ' → B t σ' F' A (pNx A Sl) (f z)) (k : ∀ z F' σ', Same F F' → Sl z F' σ' → B w σ' F' A P (h z)) (hS : ∀ z F F' σ', Same F F' → Sl z F σ' → Sl z F' σ') :
    B (tSeq (tWhile tt t) w) σ F A P (bnd (whl cnd f n z0) h) := fun s r hm F1 H c O sm ho W D q => by
  obtain ⟨zf, sf, h1, hm⟩ := bnd_some hm
  refine ⟨fun j σ3 H3 => ∃ z s3 F3 c3, Same F1 F3 ∧ A.o F3 s3 c3 ∧ Wd F3 H3 (c3 ++ O) ∧ Sl z F3 σ3 ∧ whl cnd f j z s3 = some (zf, sf), ⟨n, z0, s, F1, c, SameR _, ho, W, h0 F1 sm, h1⟩, ?_⟩
  rintro j σ3 H3 ⟨z, s3, F3, c3, sm3, o3, W3, sl, hw⟩
  cases j with
  | zero => cases hw
  | succ j =>
    obtain ⟨b, s4, e1, hw⟩ := bnd_some hw
    refine hc z F3 σ3 (sm.trans sm3) sl s3 b s4 e1 F3 H3 c3 O (SameR _) o3 W3 _ fun F4 H4 c4 sm4 o4 W4 => ?_
    cases b with
    | true =>
      simp only [cond_true] at hw
      obtain ⟨z5, s5, e2, hw⟩ := bnd_some hw
      refine iteT ⟨fun σ5 H5 => ∃ F5 c5, Same F1 F5 ∧ A.o F5 s5 c5 ∧ Wd F5 H5 (c5 ++ O) ∧ Sl z5 F5 σ5, fun σ5 H5 ⟨F5, c5, sm5, o5, W5, sl5⟩ => ⟨j, Nat.lt_succ_self j, z5, s5, F5, c5, sm5, o5, W5, sl5, hw⟩, ?_⟩
      exact hb z F4 σ3 ((sm.trans sm3).trans sm4) (hS _ _ _ _ sm4 sl) s4 (z5, s5) e2 F4 H4 c4 O (SameR _) o4 W4 _ fun F5 H5 c5 σ5 s5 o5 W5 sl5 => ⟨F5, c5, (sm3.trans sm4).trans s5, o5, W5, sl5⟩
    | false =>
      obtain ⟨rfl, rfl⟩ := ret_some hw
      exact iteF (k _ F4 σ3 ((sm.trans sm3).trans sm4) (hS _ _ _ _ sm4 sl) _ r hm F4 H4 c4 O (SameR _) o4 W4 D (P.mono (sm3.trans sm4) q))
theorem b_whileE {n : Nat} {z0 : Z} {cnd : Z → M S Bool} {X : Ow S0} {f : Z → S → Option (Fl (Z × S) (β × S0))} {Sl : Z → Hp → L2.St → Prop} {h : Z → S → Option (β × S0)} (h0 : ∀ F', Same F F' → Sl z0 F' σ) (hc : ∀ z F' σ', Same F F' → Sl z F' σ' → EvT tt σ' F' A (cnd z))
    (hb : ∀ z F' σ', Same F F' → Sl z F' σ' → B t σ' F' A (pFl A Sl X R') (f z)) (k : ∀ z F' σ', Same F F' → Sl z F' σ' → B w σ' F' A (pRt X R') (h z)) (hS : ∀ z F F' σ', Same F F' → Sl z F σ' → Sl z F' σ') :
    B (tSeq (tWhile tt t) w) σ F A (pRt X R') (fthn (whlE cnd f n z0) h) := fun s r hm F1 H c O sm ho W D q => by
  unfold fthn at hm
  cases e0 : whlE cnd f n z0 s with
  | none => rw [e0] at hm; cases hm
  | some fl =>
    rw [e0] at hm
    refine ⟨fun j σ3 H3 => ∃ z s3 F3 c3, Same F1 F3 ∧ A.o F3 s3 c3 ∧ Wd F3 H3 (c3 ++ O) ∧ Sl z F3 σ3 ∧ whlE cnd f j z s3 = some fl, ⟨n, z0, s, F1, c, SameR _, ho, W, h0 F1 sm, e0⟩, ?_⟩
    rintro j σ3 H3 ⟨z, s3, F3, c3, sm3, o3, W3, sl, hw⟩
    cases j with
    | zero => cases hw
    | succ j =>
      obtain ⟨b, s4, e1, hw⟩ := bnd_some hw
      refine hc z F3 σ3 (sm.trans sm3) sl s3 b s4 e1 F3 H3 c3 O (SameR _) o3 W3 _ fun F4 H4 c4 sm4 o4 W4 => ?_
      cases b with
      | true =>
        simp only [cond_true] at hw
        cases e2 : f z s4 with
        | none => rw [e2] at hw; cases hw
        | some fl' =>
          rw [e2] at hw
          cases fl' with
          | nx z5 =>
            refine iteT ⟨fun σ5 H5 => ∃ F5 c5, Same F1 F5 ∧ A.o F5 z5.2 c5 ∧ Wd F5 H5 (c5 ++ O) ∧ Sl z5.1 F5 σ5, fun σ5 H5 ⟨F5, c5, sm5, o5, W5, sl5⟩ => ⟨j, Nat.lt_succ_self j, z5.1, z5.2, F5, c5, sm5, o5, W5, sl5, hw⟩, ?_⟩
            exact hb z F4 σ3 ((sm.trans sm3).trans sm4) (hS _ _ _ _ sm4 sl) s4 _ e2 F4 H4 c4 O (SameR _) o4 W4 _ fun F5 H5 c5 σ5 s5 o5 W5 sl5 => ⟨F5, c5, (sm3.trans sm4).trans s5, o5, W5, sl5⟩
          | rt b' =>
            obtain rfl : Fl.rt b' = fl := Option.some.inj hw
            obtain rfl : b' = r := Option.some.inj hm
            exact iteT ⟨fun _ _ => False, fun _ _ f => f.elim, hb z F4 σ3 ((sm.trans sm3).trans sm4) (hS _ _ _ _ sm4 sl) s4 _ e2 F4 H4 c4 O (SameR _) o4 W4 _ ((pRt X R').mono (sm3.trans sm4) q)⟩
      | false =>
        obtain rfl : Fl.nx (z, s4) = fl := Option.some.inj hw
        exact iteF (k _ F4 σ3 ((sm.trans sm3).trans sm4) (hS _ _ _ _ sm4 sl) _ r hm F4 H4 c4 O (SameR _) o4 W4 D ((pRt X R').mono (sm3.trans sm4) q))
end
end T

/-! T4: operations by values. -/
namespace T
open PySem L2
section
variable {S S1 T' α β γ Ω ρ : Type} {R : Rl α} {R' : Rl β} {U : Rl γ} {K : PySem.W.Frag} {σ : L2.St} {F : Hp} {A : Ow S} {te ta tb ti to : TE} {u : TS} {P : Post Ω}
/-! numbers -/
theorem vl_I0 {g : Int → Int → Int} : VL2 (rI0 fun i j => .int (g i j)) rInt rInt rInt (fun i j => some (g i j)) := fun F H O x y a b c W hx hy hf Q q => ⟨a, b, hx, hy, by cases hf; exact q _ F H (SameR _) W rfl⟩
theorem vl_add : VL2 (rI0 fun i j => .int (i + j)) rInt rInt rInt (fun i j => some (i + j)) := vl_I0 (g := fun i j => i + j)
theorem vl_sub : VL2 (rI0 fun i j => .int (i - j)) rInt rInt rInt (fun i j => some (i - j)) := vl_I0 (g := fun i j => i - j)
theorem vl_B0 {g : Int → Int → Bool} : VL2 (rI0 fun i j => .bl (g i j)) rInt rInt rBool (fun i j => some (g i j)) := fun F H O x y a b c W hx hy hf Q q => ⟨a, b, hx, hy, by cases hf; exact q _ F H (SameR _) W rfl⟩
theorem vl_lt : VL2 (rI0 fun i j => .bl (decide (i < j))) rInt rInt rBool (fun i j => some (decide (i < j))) := vl_B0 (g := fun i j => decide (i < j))
theorem vl_le : VL2 (rI0 fun i j => .bl (decide (i ≤ j))) rInt rInt rBool (fun i j => some (decide (i ≤ j))) := vl_B0 (g := fun i j => decide (i ≤ j))
theorem vl_gt : VL2 (rI0 fun i j => .bl (decide (j < i))) rInt rInt rBool (fun i j => some (decide (j < i))) := vl_B0 (g := fun i j => decide (j < i))
theorem vl_ge : VL2 (rI0 fun i j => .bl (decide (j ≤ i))) rInt rInt rBool (fun i j => some (decide (j ≤ i))) := vl_B0 (g := fun i j => decide (j ≤ i))
def mulI (i j : Int) : Option Int := if (-(2 ^ 64) < i ∧ i < 2 ^ 64) ∨ (-(2 ^ 64) < j ∧ j < 2 ^ 64) then some (i * j) else none
def divI (i j : Int) : Option Int := if 0 < j ∧ j.natAbs.log2 < 9000 then some (i / j) else none
def modI (i j : Int) : Option Int := if 0 < j then some (i % j) else none
def powI (i j : Int) : Option Int := if 0 ≤ j ∧ j ≤ 1000000 ∧ i.natAbs < 2 ^ 64 then some (i ^ j.toNat) else none
theorem vl_mul : VL2 (rI CMul fun i j => .int (i * j)) rInt rInt rInt mulI := fun F H O x y a b c W hx hy hf Q q => by
  unfold mulI at hf; split at hf
  · cases hf; exact ⟨a, b, hx, hy, by assumption, q _ F H (SameR _) W rfl⟩
  · cases hf
theorem vl_div : VL2 (rI CDivW fun i j => .int (i / j)) rInt rInt rInt divI := fun F H O x y a b c W hx hy hf Q q => by
  unfold divI at hf; split at hf
  · cases hf; exact ⟨a, b, hx, hy, by assumption, q _ F H (SameR _) W rfl⟩
  · cases hf
theorem vl_mod : VL2 (rI (fun _ j => 0 < j) fun i j => .int (i % j)) rInt rInt rInt modI := fun F H O x y a b c W hx hy hf Q q => by
  unfold modI at hf; split at hf
  · cases hf; exact ⟨a, b, hx, hy, by assumption, q _ F H (SameR _) W rfl⟩
  · cases hf
theorem vl_pow : VL2 (rI CPow fun i j => .int (i ^ j.toNat)) rInt rInt rInt powI := fun F H O x y a b c W hx hy hf Q q => by
  unfold powI at hf; split at hf
  · cases hf; exact ⟨a, b, hx, hy, by assumption, q _ F H (SameR _) W rfl⟩
  · cases hf
/-! == of scalars -/
theorem vl_eqV {f : α → V} {g : β → V} (hR : ∀ F v x, R.r F v x → v = f x) (hS : ∀ F v x, R'.r F v x → v = g x) (hs : ∀ a b, scal (f a) (g b) = true) : VL2 rEq R R' rBool (fun a b => some (decide (f a = g b))) := fun F H O x y a b c W hx hy hf Q q => by
  cases hf; rw [hR _ _ _ hx, hS _ _ _ hy]; exact ⟨hs a b, q _ F H (SameR _) W rfl⟩
theorem vl_neV {f : α → V} {g : β → V} (hR : ∀ F v x, R.r F v x → v = f x) (hS : ∀ F v x, R'.r F v x → v = g x) (hs : ∀ a b, scal (f a) (g b) = true) : VL2 rNe R R' rBool (fun a b => some (!decide (f a = g b))) := fun F H O x y a b c W hx hy hf Q q => by
  cases hf; rw [hR _ _ _ hx, hS _ _ _ hy]; exact ⟨hs a b, q _ F H (SameR _) W rfl⟩
theorem VL2.eq {r : R2} {f g : α → β → Option γ} (h : VL2 r R R' U f) (e : ∀ a b, f a b = g a b) : VL2 r R R' U g := by rw [show g = f from funext fun a => funext fun b => (e a b).symm]; exact h
theorem vl_eqI : VL2 rEq rInt rInt rBool (fun a b => some (decide (a = b))) := (vl_eqV (f := V.int) (g := V.int) (fun _ _ _ h => h) (fun _ _ _ h => h) (fun _ _ => rfl)).eq fun a b => by simp
theorem vl_neI : VL2 rNe rInt rInt rBool (fun a b => some (!decide (a = b))) := (vl_neV (f := V.int) (g := V.int) (fun _ _ _ h => h) (fun _ _ _ h => h) (fun _ _ => rfl)).eq fun a b => by simp
theorem vl_eqS : VL2 rEq rStr rStr rBool (fun a b => some (decide (a = b))) := (vl_eqV (f := V.str) (g := V.str) (fun _ _ _ h => h) (fun _ _ _ h => h) (fun _ _ => rfl)).eq fun a b => by simp
theorem vl_neS : VL2 rNe rStr rStr rBool (fun a b => some (!decide (a = b))) := (vl_neV (f := V.str) (g := V.str) (fun _ _ _ h => h) (fun _ _ _ h => h) (fun _ _ => rfl)).eq fun a b => by simp
theorem vl_eqB : VL2 rEq rBool rBool rBool (fun a b => some (decide (a = b))) := (vl_eqV (f := V.bl) (g := V.bl) (fun _ _ _ h => h) (fun _ _ _ h => h) (fun _ _ => rfl)).eq fun a b => by simp
theorem vl_neB : VL2 rNe rBool rBool rBool (fun a b => some (!decide (a = b))) := (vl_neV (f := V.bl) (g := V.bl) (fun _ _ _ h => h) (fun _ _ _ h => h) (fun _ _ => rfl)).eq fun a b => by simp
def vOI : Option Int → V
  | none => .non
  | some i => .int i
theorem vOI_of {F : Hp} {v : V} {x : Option Int} (h : (rOpt rInt).r F v x) : v = vOI x := by cases x <;> exact h
theorem vl_eqIO : VL2 rEq rInt (rOpt rInt) rBool (fun a b => some (decide (some a = b))) := (vl_eqV (f := V.int) (g := vOI) (fun _ _ _ h => h) (fun _ _ _ h => vOI_of h) (fun _ b => by cases b <;> rfl)).eq fun a b => by cases b <;> simp [vOI]
theorem vl_neIO : VL2 rNe rInt (rOpt rInt) rBool (fun a b => some (!decide (some a = b))) := (vl_neV (f := V.int) (g := vOI) (fun _ _ _ h => h) (fun _ _ _ h => vOI_of h) (fun _ b => by cases b <;> rfl)).eq fun a b => by cases b <;> simp [vOI]
theorem vl_eqOI : VL2 rEq (rOpt rInt) rInt rBool (fun a b => some (decide (a = some b))) := (vl_eqV (f := vOI) (g := V.int) (fun _ _ _ h => vOI_of h) (fun _ _ _ h => h) (fun a b => by cases a <;> rfl)).eq fun a b => by cases a <;> simp [vOI]
theorem vl_neOI : VL2 rNe (rOpt rInt) rInt rBool (fun a b => some (!decide (a = some b))) := (vl_neV (f := vOI) (g := V.int) (fun _ _ _ h => vOI_of h) (fun _ _ _ h => h) (fun a b => by cases a <;> rfl)).eq fun a b => by cases a <;> simp [vOI]
/-! is None -/
theorem vl_isN {r0 : Rl β} : VL2 (fun x y H Q => y = .non ∧ Q (.bl (decide (x = .non))) H) (rOpt R) rNone rBool (fun a _ => match a with | none => some true | some y => none) := fun F H O x y a b c W hx hy hf Q q => by
  cases a with
  | none => cases hf; exact ⟨hy, q _ F H (SameR _) W (by rw [show x = .non from hx]; rfl)⟩
  | some y => cases hf
/-- a thing that is not None -/
class NotNon (R : Rl α) : Prop where
  nn : ∀ F v x, R.r F v x → v ≠ .non
instance : NotNon rInt := ⟨fun _ _ _ h => by cases h; simp⟩
instance : NotNon rStr := ⟨fun _ _ _ h => by cases h; simp⟩
instance : NotNon rBool := ⟨fun _ _ _ h => by cases h; simp⟩
instance : NotNon (rTup R) := ⟨fun _ _ _ ⟨_, _, e, _⟩ => by subst e; simp⟩
instance : NotNon (rLst R) := ⟨fun _ _ _ ⟨_, _, e, _⟩ => by subst e; simp⟩
instance {T : Ar α} : NotNon (rTh T) := ⟨fun _ _ _ ⟨_, _, e, _⟩ => by subst e; simp⟩
instance {T : Ar α} : NotNon (rLh T) := ⟨fun _ _ _ ⟨_, _, e, _⟩ => by subst e; simp⟩
theorem vl_isNone [hn : NotNon R] : VL2 (fun x y H Q => y = .non ∧ Q (.bl (decide (x = .non))) H) (rOpt R) rNone rBool (fun a _ => some a.isNone) := fun F H O x y a b c W hx hy hf Q q => by
  cases hf
  refine ⟨hy, q _ F H (SameR _) W ?_⟩
  cases a with
  | none => rw [show x = .non from hx]; rfl
  | some z => show V.bl _ = V.bl _; rw [decide_eq_false (hn.nn F x z hx)]; rfl
theorem vl_notNone [hn : NotNon R] : VL2 (fun x y H Q => y = .non ∧ Q (.bl (!decide (x = .non))) H) (rOpt R) rNone rBool (fun a _ => some (!a.isNone)) := fun F H O x y a b c W hx hy hf Q q => by
  cases hf
  refine ⟨hy, q _ F H (SameR _) W ?_⟩
  cases a with
  | none => rw [show x = .non from hx]; rfl
  | some z => show V.bl _ = V.bl _; rw [decide_eq_false (hn.nn F x z hx)]; rfl
/-! == of data -/
def eqD (d e : PyData) : Option Bool := if SeqAt.shaped d = true ∧ SeqAt.shaped e = true then some (PyData.eqv d e) else none
def neD (d e : PyData) : Option Bool := if SeqAt.shaped d = true ∧ SeqAt.shaped e = true then some (!PyData.eqv d e) else none
mutual
theorem Dp.mono {K : PySem.W.Frag} {H H' : Hp} (s : Same H H') : ∀ {d : PyData} {v : V}, Dp K H v d → Dp K H' v d
  | .none, _, h => by cases h; exact .non
  | .bool _, _, h => by cases h; exact .bl _
  | .int _, _, h => by cases h; exact .int _
  | .str _, _, h => by cases h; exact .str _
  | .list ds, _, h => by cases h with | lst a b => exact .lst (Evl.ex_l s a) (DpAll.mono s b)
  | .tuple ds, _, h => by cases h with | tup a b => exact .tup (Evl.ex_t s a) (DpAll.mono s b)
  | .dict _, _, h => by cases h
theorem DpAll.mono {K : PySem.W.Frag} {H H' : Hp} (s : Same H H') : ∀ {ds : List PyData} {vs : List V}, DpAll K H vs ds → DpAll K H' vs ds
  | [], _, h => by cases h; exact .nil
  | d :: ds, _, h => by cases h with | cons a b => exact .cons (Dp.mono s a) (DpAll.mono s b)
end
theorem vl_eqD (D : RD R) (E : RD R') : VL2 (rEqD K) R R' rBool (fun a b => eqD (D.d a) (E.d b)) := fun F H O x y a b c W hx hy hf Q q => by
  simp only [eqD] at hf; split at hf
  · rename_i h; cases hf; exact ⟨_, _, Dp.mono W.sub (D.dp hx), Dp.mono W.sub (E.dp hy), h.1, h.2, q _ F H (SameR _) W rfl⟩
  · cases hf
theorem vl_neD (D : RD R) (E : RD R') : VL2 (rNeD K) R R' rBool (fun a b => neD (D.d a) (E.d b)) := fun F H O x y a b c W hx hy hf Q q => by
  simp only [neD] at hf; split at hf
  · rename_i h; cases hf; exact ⟨_, _, Dp.mono W.sub (D.dp hx), Dp.mono W.sub (E.dp hy), h.1, h.2, q _ F H (SameR _) W rfl⟩
  · cases hf
/-! subscripts -/
theorem atI_paired {Q : V → α → Prop} {vs : List V} {xs : List α} {i : Int} {x : α} (h : Paired Q vs xs) (e : atI xs i = some x) : ∃ v, atI vs i = some v ∧ Q v x := by
  unfold atI at e ⊢
  rw [paired_len h]
  cases e1 : ixN xs.length i with
  | none => rw [e1] at e; cases e
  | some j => rw [e1] at e; exact paired_get' h e
theorem vl_ixL : VL2 (rIxL K) (rLst R) rInt R (fun xs i => atI xs i) := fun F H O x y a b c W ⟨p, vs, ex, hp, rp⟩ hy hf Q q => by
  obtain ⟨v, e, r⟩ := atI_paired rp hf
  exact ⟨p, vs, b, v, ex, hy, SqL.of (W.sub _ _ hp), e, q v F H (SameR _) W r⟩
theorem vl_ixT : VL2 (rIxT K) (rTup R) rInt R (fun xs i => atI xs i) := fun F H O x y a b c W ⟨p, vs, ex, hp, rp⟩ hy hf Q q => by
  obtain ⟨v, e, r⟩ := atI_paired rp hf
  exact ⟨p, vs, b, v, ex, hy, SqT.of (W.sub _ _ hp), e, q v F H (SameR _) W r⟩
/-- the i-th of a row -/
structure Prj {α β : Type} (T : Ar α) (i : Nat) (R : Rl β) (f : α → β) : Prop where
  at_ : ∀ {F : Hp} {vs : List V} {x : α}, T.r F vs x → ∃ v, vs[i]? = some v ∧ R.r F v (f x)
theorem prj_0 {T : Ar β} : Prj (arC R T) 0 R (fun x => x.1) := ⟨fun ⟨v, r, e, h, _⟩ => ⟨v, by subst e; rfl, h⟩⟩
theorem prj_1 : Prj (arOne R) 0 R (fun x => x) := ⟨fun ⟨v, e, h⟩ => ⟨v, by subst e; rfl, h⟩⟩
theorem prj_s {T : Ar β} {i : Nat} {f : β → γ} (h : Prj T i U f) : Prj (arC R T) (i + 1) U (fun x => f x.2) := ⟨fun ⟨v, r, e, _, h2⟩ => by
  obtain ⟨w, e1, r1⟩ := h.at_ h2
  exact ⟨w, by subst e; exact e1, r1⟩⟩
theorem atI_ofNat {α : Type} {xs : List α} {i : Nat} {x : α} (h : xs[i]? = some x) : atI xs (i : Int) = some x := by
  have hi := (List.getElem?_eq_some_iff.mp h).1
  unfold atI ixN
  rw [if_pos (by omega), if_pos (by omega)]
  simpa using h
theorem ev_prj {X : Ar α} {i : Nat} {f : α → β} {m : M S α} {j : Int} (h : Prj X i R' f) (ha : Ev ta σ F A (rTh X) m) (hj : j = (i : Int) := by rfl) : Ev (tOp (rIxT K) ta (tC (.int j))) σ F A R' (bnd m fun x => ret (f x)) := fun s b s' hm F1 H c O sm ho W Q q => by
  obtain ⟨x, s1, h1, hm⟩ := bnd_some hm
  obtain ⟨rfl, rfl⟩ := ret_some hm
  refine ha s x _ h1 F1 H c O sm ho W _ fun v F2 H2 c2 s2 o2 W2 ⟨p, vs, e, hp, r⟩ => ?_
  obtain ⟨w, e1, r1⟩ := h.at_ r
  subst hj
  exact ⟨p, vs, _, w, e, rfl, SqT.of (W2.sub _ _ hp), atI_ofNat e1, q w F2 H2 c2 s2 o2 W2 r1⟩
theorem ev_prjL {X : Ar α} {i : Nat} {f : α → β} {m : M S α} {j : Int} (h : Prj X i R' f) (ha : Ev ta σ F A (rLh X) m) (hj : j = (i : Int) := by rfl) : Ev (tOp (rIxL K) ta (tC (.int j))) σ F A R' (bnd m fun x => ret (f x)) := fun s b s' hm F1 H c O sm ho W Q q => by
  obtain ⟨x, s1, h1, hm⟩ := bnd_some hm
  obtain ⟨rfl, rfl⟩ := ret_some hm
  refine ha s x _ h1 F1 H c O sm ho W _ fun v F2 H2 c2 s2 o2 W2 ⟨p, vs, e, hp, r⟩ => ?_
  obtain ⟨w, e1, r1⟩ := h.at_ r
  subst hj
  exact ⟨p, vs, _, w, e, rfl, SqL.of (W2.sub _ _ hp), atI_ofNat e1, q w F2 H2 c2 s2 o2 W2 r1⟩
/-! x in a row of flat things -/
theorem vl_in {neg : Bool} {f : α → V} (hR : ∀ F v x, R.r F v x → v = f x) (hf : ∀ x, flatV (f x) = true) [DecidableEq α] (he : ∀ a b, eqV (f b) (f a) = decide (b = a)) (lt : Bool) :
    VL2 (rIn K neg) R (bif lt then rTup R else rLst R) rBool (fun a xs => some (if neg then !xs.any (fun b => decide (b = a)) else xs.any fun b => decide (b = a))) := fun F H O x y a b c W hx hy hf' Q q => by
  have key : ∀ p vs, y = .ref p → (SqL K H p vs ∨ SqT K H p vs) → Paired (R.r F) vs b → rIn K neg x y H Q := fun p vs e hs rp => by
    have e1 : vs = b.map f := by
      clear hs hf' q hy
      induction rp with
      | nil => rfl
      | cons r t ih => rw [hR _ _ _ r, ih]; rfl
    refine ⟨p, vs, e, hs, by rw [hR _ _ _ hx]; exact hf a, by rw [e1, List.all_map]; exact List.all_eq_true.mpr fun z _ => hf z, ?_⟩
    have e2 : inV x vs = b.any fun z => decide (z = a) := by
      rw [hR _ _ _ hx, e1]; unfold inV; rw [List.any_map]; congr 1; funext z; exact he a z
    rw [e2]; cases hf'
    exact q _ F H (SameR _) W rfl
  cases lt with
  | true => obtain ⟨p, vs, e, hp, rp⟩ := hy; exact key p vs e (.inr (SqT.of (W.sub _ _ hp))) rp
  | false => obtain ⟨p, vs, e, hp, rp⟩ := hy; exact key p vs e (.inl (SqL.of (W.sub _ _ hp))) rp
theorem eqV_int (a b : Int) : eqV (.int b) (.int a) = decide (b = a) := rfl
theorem vl_inIT : VL2 (rIn K false) rInt (rTup rInt) rBool (fun a xs => some (xs.any fun b => decide (b = a))) := vl_in (f := V.int) (fun _ _ _ h => h) (fun _ => rfl) eqV_int true
theorem vl_niIT : VL2 (rIn K true) rInt (rTup rInt) rBool (fun a xs => some (!xs.any fun b => decide (b = a))) := vl_in (f := V.int) (fun _ _ _ h => h) (fun _ => rfl) eqV_int true
theorem vl_inIL : VL2 (rIn K false) rInt (rLst rInt) rBool (fun a xs => some (xs.any fun b => decide (b = a))) := vl_in (f := V.int) (fun _ _ _ h => h) (fun _ => rfl) eqV_int false
theorem vl_niIL : VL2 (rIn K true) rInt (rLst rInt) rBool (fun a xs => some (!xs.any fun b => decide (b = a))) := vl_in (f := V.int) (fun _ _ _ h => h) (fun _ => rfl) eqV_int false
/-! built-in functions of one sequence -/
abbrev rLen (K : PySem.W.Frag) : List V → Hp → VK → Prop := fun xs H Q => ∃ p ys, xs = [.ref p] ∧ (SqL K H p ys ∨ SqT K H p ys) ∧ Q (.int ys.length) H
theorem vl_lenT : VLc (rLen K) (arOne (rTup R)) rInt (fun xs => some (xs.length : Int)) := fun F H O xs a c W ⟨v, e, p, vs, ev, hp, rp⟩ hf Q q => by
  cases hf
  exact ⟨p, vs, by rw [e, ev], .inr (SqT.of (W.sub _ _ hp)), q _ F H (SameR _) W (by show V.int _ = V.int _; rw [paired_len rp])⟩
theorem vl_lenL : VLc (rLen K) (arOne (rLst R)) rInt (fun xs => some (xs.length : Int)) := fun F H O xs a c W ⟨v, e, p, vs, ev, hp, rp⟩ hf Q q => by
  cases hf
  exact ⟨p, vs, by rw [e, ev], .inl (SqL.of (W.sub _ _ hp)), q _ F H (SameR _) W (by show V.int _ = V.int _; rw [paired_len rp])⟩
theorem vs_int {F : Hp} {vs : List V} {a : List Int} (rp : Paired (rInt.r F) vs a) : vs = a.map V.int := by
  induction rp with
  | nil => rfl
  | cons r t ih => rw [show _ = _ from r, ih]; rfl
theorem vl_sumL : VLc (rSum K) (arOne (rLst rInt)) rInt (fun xs => some xs.sum) := fun F H O xs a c W ⟨v, e, p, vs, ev, hp, rp⟩ hf Q q => by
  cases hf
  exact ⟨p, a, by rw [e, ev], SqL.of (by rw [← vs_int rp]; exact W.sub _ _ hp), q _ F H (SameR _) W rfl⟩
theorem vs_bl {F : Hp} {vs : List V} {a : List Bool} (rp : Paired (rBool.r F) vs a) : vs = a.map V.bl := by
  induction rp with
  | nil => rfl
  | cons r t ih => rw [show _ = _ from r, ih]; rfl
theorem vl_allL : VLc (rAll K) (arOne (rLst rBool)) rBool (fun xs => some (xs.all id)) := fun F H O xs a c W ⟨v, e, p, vs, ev, hp, rp⟩ hf Q q => by
  cases hf
  exact ⟨p, a, by rw [e, ev], SqL.of (by rw [← vs_bl rp]; exact W.sub _ _ hp), q _ F H (SameR _) W rfl⟩
theorem vl_anyL : VLc (rAny K) (arOne (rLst rBool)) rBool (fun xs => some (xs.any id)) := fun F H O xs a c W ⟨v, e, p, vs, ev, hp, rp⟩ hf Q q => by
  cases hf
  exact ⟨p, a, by rw [e, ev], SqL.of (by rw [← vs_bl rp]; exact W.sub _ _ hp), q _ F H (SameR _) W rfl⟩
abbrev rTupleOf (K : PySem.W.Frag) : List V → Hp → VK → Prop := fun xs H Q => ∃ p ys, xs = [.ref p] ∧ ((SqL K H p ys ∧ ∀ l, H l = none → Q (.ref l) (upd H l (.tup ys))) ∨ (SqT K H p ys ∧ Q (.ref p) H))
theorem vl_tupleL : VLc (rTupleOf K) (arOne (rLst R)) (rTup R) (fun xs => some xs) := fun F H O xs a c W ⟨v, e, p, vs, ev, hp, rp⟩ hf Q q => by
  cases hf
  exact ⟨p, vs, by rw [e, ev], .inl ⟨SqL.of (W.sub _ _ hp), fun l nl => q _ _ _ (W.sameF nl) (W.newF nl) ⟨l, vs, rfl, upd_same, paired_mono (fun _ _ => R.mono (W.sameF nl)) rp⟩⟩⟩
theorem vl_tupleT : VLc (rTupleOf K) (arOne (rTup R)) (rTup R) (fun xs => some xs) := fun F H O xs a c W ⟨v, e, p, vs, ev, hp, rp⟩ hf Q q => by
  cases hf
  exact ⟨p, vs, by rw [e, ev], .inr ⟨SqT.of (W.sub _ _ hp), q _ F H (SameR _) W ⟨p, vs, rfl, hp, rp⟩⟩⟩
abbrev rListOf (K : PySem.W.Frag) : List V → Hp → VK → Prop := fun xs H Q => ∃ p ys, xs = [.ref p] ∧ (SqL K H p ys ∨ SqT K H p ys) ∧ ∀ l, H l = none → Q (.ref l) (upd H l (.lst ys))
theorem vo_listL : VLo (rListOf K) (arOne (rLst R)) (oLst R) (fun xs => some xs) := fun F H O xs a c W ⟨v, e, p, vs, ev, hp, rp⟩ hf Q q => by
  cases hf
  exact ⟨p, vs, by rw [e, ev], .inl (SqL.of (W.sub _ _ hp)), fun l nl => q _ F _ [(l, .lst vs)] (SameR _) ⟨l, vs, rfl, rfl, rp⟩ (W.newO nl)⟩
theorem vo_listT : VLo (rListOf K) (arOne (rTup R)) (oLst R) (fun xs => some xs) := fun F H O xs a c W ⟨v, e, p, vs, ev, hp, rp⟩ hf Q q => by
  cases hf
  exact ⟨p, vs, by rw [e, ev], .inr (SqT.of (W.sub _ _ hp)), fun l nl => q _ F _ [(l, .lst vs)] (SameR _) ⟨l, vs, rfl, rfl, rp⟩ (W.newO nl)⟩
def intB : Bool → Int
  | true => 1
  | false => 0
abbrev rIntOf : List V → Hp → VK → Prop := fun xs H Q => (∃ i, xs = [.int i] ∧ Q (.int i) H) ∨ ∃ k, xs = [.bl k] ∧ Q (.int (if k then 1 else 0)) H
theorem vl_intB : VLc rIntOf (arOne rBool) rInt (fun b => some (intB b)) := fun F H O xs a c W ⟨v, e, ev⟩ hf Q q => by
  cases hf
  exact .inr ⟨a, by rw [e, ev], q _ F H (SameR _) W (by cases a <;> rfl)⟩
abbrev rMin2 : List V → Hp → VK → Prop := fun xs H Q => ∃ i j, xs = [.int i, .int j] ∧ Q (.int (if j < i then j else i)) H
theorem vl_min2 : VLc rMin2 (arC rInt (arOne rInt)) rInt (fun x => some (if x.2 < x.1 then x.2 else x.1)) := fun F H O xs a c W ⟨v, r, e, ev, v2, e2, ev2⟩ hf Q q => by
  cases hf
  exact ⟨a.1, a.2, by rw [e, e2, ev, ev2], q _ F H (SameR _) W rfl⟩
abbrev rMax2 : List V → Hp → VK → Prop := fun xs H Q => ∃ i j, xs = [.int i, .int j] ∧ Q (.int (if j > i then j else i)) H
theorem vl_max2 : VLc rMax2 (arC rInt (arOne rInt)) rInt (fun x => some (if x.2 > x.1 then x.2 else x.1)) := fun F H O xs a c W ⟨v, r, e, ev, v2, e2, ev2⟩ hf Q q => by
  cases hf
  exact ⟨a.1, a.2, by rw [e, e2, ev, ev2], q _ F H (SameR _) W rfl⟩
abbrev rDivmod : List V → Hp → VK → Prop := fun xs H Q => ∃ i j, xs = [.int i, .int j] ∧ CDiv i j ∧ ∀ p, H p = none → Q (.ref p) (upd H p (.tup [.int (i / j), .int (i % j)]))
def dvm (x : Int × Int) : Option (Int × Int) := if 0 < x.2 ∧ x.2 < 1073741824 then some (x.1 / x.2, x.1 % x.2) else none
theorem vl_divmod : VLc rDivmod (arC rInt (arOne rInt)) (rTh (arC rInt (arOne rInt))) dvm := fun F H O xs a c W ⟨v, r, e, ev, v2, e2, ev2⟩ hf Q q => by
  unfold dvm at hf; split at hf
  · rename_i h; cases hf
    exact ⟨a.1, a.2, by rw [e, e2, ev, ev2], h, fun p np => q _ _ _ (W.sameF np) (W.newF np) ⟨p, _, rfl, upd_same, _, _, rfl, rfl, _, rfl, rfl⟩⟩
  · cases hf
/-! lists that are owned -/
def upL {S T : Type} (g : S → T) (p : S → T → S) (f : T → Option T) : M S Unit := fun s => (f (g s)).map fun t => ((), p s t)
def gtL {S T β : Type} (g : S → T) (f : T → Option β) : M S β := fun s => (f (g s)).map fun b => (b, s)
theorem upL_some {S T : Type} {g : S → T} {p : S → T → S} {f : T → Option T} {s s' : S} {b : Unit} (h : upL g p f s = some (b, s')) : ∃ t, f (g s) = some t ∧ s' = p s t := by
  unfold upL at h
  cases e : f (g s) with
  | none => rw [e] at h; cases h
  | some t => rw [e] at h; cases h; exact ⟨t, rfl, rfl⟩
theorem gtL_some {S T β : Type} {g : S → T} {f : T → Option β} {s s' : S} {b : β} (h : gtL g f s = some (b, s')) : f (g s) = some b ∧ s' = s := by
  unfold gtL at h
  cases e : f (g s) with
  | none => rw [e] at h; cases h
  | some t => rw [e] at h; cases h; exact ⟨rfl, rfl⟩
def app (xs : List α) (x : α) : Option (List α) := if xs.length < lim then some (xs ++ [x]) else none
theorem app_some {xs ys : List α} {x : α} (h : app xs x = some ys) : ys = xs ++ [x] ∧ xs.length < lim := by
  unfold app at h; split at h
  · cases h; exact ⟨rfl, by assumption⟩
  · cases h
def setI (xs : List α) (i : Int) (x : α) : Option (List α) := (ixN xs.length i).map fun j => xs.set j x
variable {v : V} {j : Nat} {g : S → List α} {p : S → List α → S} {m : M S α} {mi : M S Int}
/-- the world with an owned list in front -/
theorem emb_list {F H : Hp} {s : S} {c O : Ch} (e : Emb A (oLst R v) g p) (ho : A.o F s c) (W : Wd F H (c ++ O)) : ∃ l vs c2, v = .ref l ∧ Paired (R.r F) vs (g s) ∧ Wd F H ((l, .lst vs) :: (c2 ++ O)) ∧
    ∀ F' xs vs', Same F F' → Paired (R.r F') vs' xs → ∀ H', Wd F' H' ((l, .lst vs') :: (c2 ++ O)) → ∃ c', A.o F' (p s xs) c' ∧ Wd F' H' (c' ++ O) := by
  obtain ⟨c1, c2, pm, ⟨l, vs, e1, rfl, rp⟩, k⟩ := e.split ho
  refine ⟨l, vs, c2, e1, rp, (W.perm (pm.append_right O)), fun F' xs vs' s' rp' H' W' => ?_⟩
  obtain ⟨c', o', pm'⟩ := k F' xs [(l, .lst vs')] s' ⟨l, vs', e1, rfl, rp'⟩
  exact ⟨c', o', W'.perm (pm'.append_right O).symm⟩
theorem paired_set {Q : V → α → Prop} {vs : List V} {xs : List α} {u : V} {x : α} (h : Paired Q vs xs) (r : Q u x) : ∀ (i : Nat), Paired Q (vs.set i u) (xs.set i x) := by
  induction h with
  | nil => exact fun _ => .nil
  | cons a t ih => intro i; cases i with
    | zero => exact .cons r t
    | succ i => exact .cons a (ih i)
/-- x[i], x owned -/
theorem ev_ixO (hv : σ[j]? = some (some v)) (e : Emb A (oLst R v) g p) (hi : Ev ti σ F A rInt mi) : Ev (tOp (rIxL K) (tVar j) ti) σ F A R (bnd mi fun i => gtL g fun xs => atI xs i) := fun s b s' hm F1 H c O sm ho W Q q => by
  obtain ⟨i, s1, h1, hm⟩ := bnd_some hm
  obtain ⟨h2, rfl⟩ := gtL_some hm
  refine ⟨v, hv, hi s i _ h1 F1 H c O sm ho W _ fun y F2 H2 c2 s2 o2 W2 r2 => ?_⟩
  obtain ⟨l, vs, c3, rfl, rp, W3, k⟩ := emb_list e o2 W2
  obtain ⟨w, e1, r1⟩ := atI_paired rp h2
  exact ⟨l, vs, i, w, rfl, r2, SqL.of W3.hd, e1, q w F2 H2 c2 s2 o2 W2 r1⟩
/-- len(x), tuple(x), list(x), sum(x) .. of x owned: by what holds of a list that stands in H -/
def VH (r : List V → Hp → VK → Prop) (R : Rl α) (U : Rl β) (f : List α → Option β) : Prop := ∀ F H O l vs xs b, Wd F H O → H l = some (.lst vs) → Paired (R.r F) vs xs → f xs = some b →
  ∀ Q : VK, (∀ v F' H', Same F F' → Wd F' H' O → U.r F' v b → Q v H') → r [.ref l] H Q
theorem ev_cbO {r : List V → Hp → VK → Prop} {f : List α → Option β} (hr : VH r R R' f) (hv : σ[j]? = some (some v)) (e : Emb A (oLst R v) g p) : Ev (tCB r (tCons (tVar j) tNil)) σ F A R' (gtL g f) := fun s b s' hm F1 H c O sm ho W Q q => by
  obtain ⟨h2, rfl⟩ := gtL_some hm
  refine ⟨v, hv, ?_⟩
  obtain ⟨l, vs, c3, rfl, rp, W3, k⟩ := emb_list e ho W
  exact hr F1 H _ l vs _ b W W3.hd rp h2 Q fun v F' H' s' W' r' => q v F' H' c s' (A.mono s' ho) W' r'
theorem vh_len : VH (rLen K) R rInt (fun xs => some (xs.length : Int)) := fun F H O l vs xs b W h rp hf Q q => by
  cases hf
  exact ⟨l, vs, rfl, .inl (SqL.of h), q _ F H (SameR _) W (by show V.int _ = V.int _; rw [paired_len rp])⟩
theorem vh_tuple : VH (rTupleOf K) R (rTup R) (fun xs => some xs) := fun F H O l vs xs b W h rp hf Q q => by
  cases hf
  exact ⟨l, vs, rfl, .inl ⟨SqL.of h, fun l nl => q _ _ _ (W.sameF nl) (W.newF nl) ⟨l, vs, rfl, upd_same, paired_mono (fun _ _ => R.mono (W.sameF nl)) rp⟩⟩⟩
/-- x.append(e) -/
theorem b_app {f : S → Option Ω} (hv : σ[j]? = some (some v)) (e : Emb A (oLst R v) g p) (he : Ev te σ F A R m) (k : B u σ F A P f) : B (tSeq (tDrop (tBM K "list" rAppend (tVar j) (tCons te tNil))) u) σ F A P (bnd m fun x => bnd (upL g p fun xs => app xs x) fun _ => f) := fun s w hm F1 H c O sm ho W D q => by
  obtain ⟨x, s1, h1, hm⟩ := bnd_some hm
  obtain ⟨_, s2, h2, hm⟩ := bnd_some hm
  obtain ⟨xs, h2a, rfl⟩ := upL_some h2
  obtain ⟨rfl, hl⟩ := app_some h2a
  refine ⟨v, hv, ?_⟩
  obtain ⟨l0, vs0, c0, e0, _, W0, _⟩ := emb_list e ho W
  refine ⟨by rw [e0]; exact Or.inl ⟨rfl, vs0, SqL.of W0.hd⟩, ?_⟩
  refine he s x s1 h1 F1 H c O sm ho W _ fun y F2 H2 c2 sm2 o2 W2 r2 => ?_
  obtain ⟨l, vs, c3, rfl, rp, W3, kk⟩ := emb_list e o2 W2
  refine ⟨l, vs, y, rfl, rfl, W3.hd, by rw [paired_len rp]; exact lim_le hl, ?_⟩
  obtain ⟨c4, o4, W4⟩ := kk F2 _ (vs ++ [y]) (SameR _) (rp.snoc r2) _ W3.set
  exact k _ w hm F2 _ c4 O (sm.trans sm2) o4 W4 D (P.mono sm2 q)
theorem setI_some {xs ys : List α} {i : Int} {x : α} (h : setI xs i x = some ys) : ∃ j, ixN xs.length i = some j ∧ ys = xs.set j x := by
  unfold setI at h
  cases e : ixN xs.length i with
  | none => rw [e] at h; cases h
  | some j => rw [e] at h; cases h; exact ⟨j, rfl, rfl⟩
/-- x[i] = e -/
theorem b_setL {f : S → Option Ω} (hv : σ[j]? = some (some v)) (e : Emb A (oLst R v) g p) (he : Ev te σ F A R m) (hi : Ev ti σ F A rInt mi) (k : B u σ F A P f) : B (tSeq (tAsg te (gSub (tVar j) ti rSetL)) u) σ F A P (bnd m fun x => bnd mi fun i => bnd (upL g p fun xs => setI xs i x) fun _ => f) := fun s w hm F1 H c O sm ho W D q => by
  obtain ⟨x, s1, h1, hm⟩ := bnd_some hm
  obtain ⟨i, s2, h2, hm⟩ := bnd_some hm
  obtain ⟨_, s3, h3, hm⟩ := bnd_some hm
  obtain ⟨xs, h3a, rfl⟩ := upL_some h3
  obtain ⟨n, hn, rfl⟩ := setI_some h3a
  refine he s x s1 h1 F1 H c O sm ho W _ fun y F2 H2 c2 sm2 o2 W2 r2 => ⟨v, hv, ?_⟩
  refine hi s1 i s2 h2 F2 H2 c2 O (sm.trans sm2) o2 W2 _ fun z F3 H3 c3 sm3 o3 W3 r3 => ?_
  obtain ⟨l, vs, c4, rfl, rp, W4, kk⟩ := emb_list e o3 W3
  refine ⟨l, vs, i, n, rfl, r3, W4.hd, by rw [paired_len rp]; exact hn, ?_⟩
  obtain ⟨c5, o5, W5⟩ := kk F3 _ (vs.set n y) (SameR _) (paired_set rp (R.mono sm3 r2) n) _ W4.set
  exact k _ w hm F3 _ c5 O ((sm.trans sm2).trans sm3) o5 W5 D (P.mono (sm2.trans sm3) q)
/-- x[i] += e, ints -/
theorem b_augL {g : S → List Int} {p : S → List Int → S} {m : M S Int} {h : Int → Int → Int} {f : S → Option Ω} (hv : σ[j]? = some (some v)) (e : Emb A (oLst rInt v) g p) (hi : Ev ti σ F A rInt mi) (he : Ev te σ F A rInt m) (k : B u σ F A P f) :
    B (tSeq (tAugS (tVar j) ti te (rIxL K) (ipI h) rSetL) u) σ F A P (bnd mi fun i => bnd (gtL g fun xs => atI xs i) fun y => bnd m fun x => bnd (upL g p fun xs => setI xs i (h y x)) fun _ => f) := fun s w hm F1 H c O sm ho W D q => by
  obtain ⟨i, s1, h1, hm⟩ := bnd_some hm
  obtain ⟨y, s2, h2, hm2⟩ := bnd_some hm
  clear hm
  obtain ⟨h2a, e2⟩ := gtL_some h2
  subst e2
  obtain ⟨x, s3, h3, hm3⟩ := bnd_some hm2
  obtain ⟨_, s4, h4, hm⟩ := bnd_some hm3
  obtain ⟨xs, h4a, rfl⟩ := upL_some h4
  obtain ⟨n, hn, rfl⟩ := setI_some h4a
  refine ⟨v, hv, hi s i _ h1 F1 H c O sm ho W _ fun z F2 H2 c2 sm2 o2 W2 r2 => ?_⟩
  obtain ⟨l, vs, c4, e0, rp, W4, kk⟩ := emb_list e o2 W2
  obtain ⟨w', e1, r1⟩ := atI_paired rp h2a
  refine ⟨l, vs, i, w', e0, r2, SqL.of W4.hd, e1, ?_⟩
  refine he _ x s3 h3 F2 H2 c2 O (sm.trans sm2) o2 W2 _ fun z3 F3 H3 c3 sm3 o3 W3 r3 => ⟨y, x, r1, r3, ?_⟩
  obtain ⟨l, vs, c5, rfl, rp, W5, kk⟩ := emb_list e o3 W3
  refine ⟨l, vs, i, n, rfl, r2, W5.hd, by rw [paired_len rp]; exact hn, ?_⟩
  obtain ⟨c6, o6, W6⟩ := kk F3 _ (vs.set n _) (SameR _) (paired_set rp rfl n) _ W5.set
  exact k _ w hm F3 _ c6 O ((sm.trans sm2).trans sm3) o6 W6 D (P.mono (sm2.trans sm3) q)
/-- x += e, ints -/
theorem b_aug {x0 : Int} {m : M S Int} {h : Int → Int → Int} {f : Int → S → Option Ω} (hv : σ[j]? = some (some (.int x0))) (he : Ev te σ F A rInt m) (k : ∀ y F', Same F F' → B u (σ.set j (some (.int (h x0 y)))) F' A P (f (h x0 y))) :
    B (tSeq (tAug j te (ipI h)) u) σ F A P (bnd m fun y => f (h x0 y)) := fun s w hm F1 H c O sm ho W D q => by
  obtain ⟨y, s1, h1, hm⟩ := bnd_some hm
  refine ⟨_, hv, he s y s1 h1 F1 H c O sm ho W _ fun z F2 H2 c2 sm2 o2 W2 r2 => ⟨x0, y, rfl, r2, ?_⟩⟩
  exact k y F2 (sm.trans sm2) s1 w hm F2 H2 c2 O (SameR _) o2 W2 D (P.mono sm2 q)
/-! list + list, tuple + tuple, [x] * n -/
theorem paired_app {Q : V → α → Prop} {vs vs' : List V} {xs xs' : List α} (h : Paired Q vs xs) (h' : Paired Q vs' xs') : Paired Q (vs ++ vs') (xs ++ xs') := by
  induction h with
  | nil => exact h'
  | cons r t ih => exact .cons r ih
def catL (xs ys : List α) : Option (List α) := if xs.length + ys.length < lim then some (xs ++ ys) else none
theorem catL_some {xs ys zs : List α} (h : catL xs ys = some zs) : zs = xs ++ ys ∧ xs.length + ys.length < lim := by
  unfold catL at h; split at h
  · cases h; exact ⟨rfl, by assumption⟩
  · cases h
theorem vo_cat : VLo2 rCat (rLst R) (rLst R) (oLst R) catL := fun F H O x y a b c W ⟨p1, vs, ex, hp, rp⟩ ⟨p2, ws, ey, hq, rq⟩ hf Q q => by
  obtain ⟨rfl, hl⟩ := catL_some hf
  exact ⟨p1, p2, vs, ws, ex, ey, W.sub _ _ hp, W.sub _ _ hq, by rw [paired_len rp, paired_len rq]; exact Nat.le_of_lt (lim_le hl), fun l nl => q _ F _ [(l, .lst (vs ++ ws))] (SameR _) ⟨l, _, rfl, rfl, paired_app rp rq⟩ (W.newO nl)⟩
theorem vl_catT : VL2 (rCatA K) (rTup R) (rTup R) (rTup R) catL := fun F H O x y a b c W ⟨p1, vs, ex, hp, rp⟩ ⟨p2, ws, ey, hq, rq⟩ hf Q q => by
  obtain ⟨rfl, hl⟩ := catL_some hf
  refine ⟨p1, p2, vs, ws, ex, ey, SqT.of (W.sub _ _ hp), SqT.of (W.sub _ _ hq), by rw [paired_len rp, paired_len rq]; exact Nat.le_of_lt (lim_le hl), fun e => ?_, fun _ e => ?_, fun _ _ l nl => ?_⟩
  · subst e; cases rp; exact q _ F H (SameR _) W ⟨p2, ws, rfl, hq, rq⟩
  · subst e; cases rq; subst ex; exact q _ F H (SameR _) W ⟨p1, vs, rfl, hp, by rw [List.append_nil]; exact rp⟩
  · exact q _ _ _ (W.sameF nl) (W.newF nl) ⟨l, _, rfl, upd_same, paired_mono (fun _ _ => R.mono (W.sameF nl)) (paired_app rp rq)⟩
def repL (xs : List α) (k : Int) : Option (List α) := if k < 1000 ∧ -1000 < k ∧ xs.length < 100 then some (List.replicate k.toNat xs).flatten else none
theorem paired_rep {Q : V → α → Prop} {vs : List V} {xs : List α} (h : Paired Q vs xs) : ∀ n, Paired Q (List.replicate n vs).flatten (List.replicate n xs).flatten
  | 0 => .nil
  | n + 1 => by rw [List.replicate_succ, List.replicate_succ, List.flatten_cons, List.flatten_cons]; exact paired_app h (paired_rep h n)
theorem vo_rep : VLo2 rRep (rLst R) rInt (oLst R) repL := fun F H O x y a b c W ⟨p1, vs, ex, hp, rp⟩ hy hf Q q => by
  unfold repL at hf; split at hf
  · rename_i h; cases hf
    refine ⟨p1, b, vs, ex, hy, W.sub _ _ hp, by omega, by omega, ?_, fun l nl => q _ F _ [(l, _)] (SameR _) ⟨l, _, rfl, rfl, paired_rep rp _⟩ (W.newO nl)⟩
    rw [paired_len rp]
    refine Nat.le_trans (Nat.mul_le_mul (Nat.le_of_lt h.2.2) (show b.toNat ≤ 1000 by omega)) (by decide)
  · cases hf
/-! isinstance of things whose type is told by their row -/
theorem vl_isi {n : String} {bb : Bool} (ht : ∀ F H v x, Same F H → R.r F v x → ∃ t, TyX K H v (.type t) ∧ PySem.W.kitOne K (.type t) (.type n) = some bb) : VLc (rIsi K) (arC R (arOne (rV (.ty n)))) rBool (fun _ => some bb) := fun F H O xs a c W ⟨v, r, e, rv, v2, e2, ev2⟩ hf Q q => by
  cases hf
  obtain ⟨t, ty, kk⟩ := ht F H v a.1 W.sub rv
  exact ⟨v, .ty n, .type t, .type n, bb, by rw [e, e2, show v2 = _ from ev2], .ty n, ty, kk, q _ F H (SameR _) W rfl⟩
end
end T

/-! T5: the layer's rules with the written part told by K; a def's end. -/
namespace T
open PySem L2
section
variable {X : Cx} {K : PySem.W.Frag}
theorem kix_tup (e : X.K = K := by rfl) : IxR X (rIxT K) := by subst e; exact ix_tup
theorem kix_list (e : X.K = K := by rfl) : IxR X (rIxL K) := by subst e; exact ix_list
theorem kc_len (e : X.K = K := by rfl) : CallR X (.builtin "len") (rLen K) := by subst e; exact call_len_seq
theorem kc_tuple (e : X.K = K := by rfl) : CallR X (.type "tuple") (rTupleOf K) := by subst e; exact call_tuple_of
theorem kc_list (e : X.K = K := by rfl) : CallR X (.type "list") (rListOf K) := by subst e; exact call_list_of
theorem kc_sum (hc : X.calm = true) (e : X.K = K := by rfl) : CallR X (.builtin "sum") (rSum K) := by subst e; exact cr_sum hc
theorem kc_all (hc : X.calm = true) (e : X.K = K := by rfl) : CallR X (.builtin "all") (rAll K) := by subst e; exact cr_all hc
theorem kc_any (hc : X.calm = true) (e : X.K = K := by rfl) : CallR X (.builtin "any") (rAny K) := by subst e; exact cr_any hc
theorem kop_in (e : X.K = K := by rfl) : OpR X (compareOp .In) (rIn K false) := by subst e; exact op_in_seq
theorem kop_notIn (e : X.K = K := by rfl) : OpR X (compareOp .NotIn) (rIn K true) := by subst e; exact op_notIn_seq
theorem kop_eqD (hu : X.A.units + 64 < cLine) (e : X.K = K := by rfl) : OpR X (compareOp .Eq) (rEqD K) := by subst e; exact op_eqD hu
theorem kop_neD (hu : X.A.units + 64 < cLine) (e : X.K = K := by rfl) : OpR X (compareOp .NotEq) (rNeD K) := by subst e; exact op_neD hu
theorem ksl_tup (e : X.K = K := by rfl) : SlR X (rSlA K) := by subst e; exact sl_tupA
theorem ksl_list (e : X.K = K := by rfl) : SlR X (rSlL K) := by subst e; exact sl_list
theorem kop_catT (e : X.K = K := by rfl) : OpR X (binaryOp .Add) (rCatA K) := by subst e; exact op_catA
theorem kc_isi (e : X.K = K := by rfl) : CallR X (.builtin "isinstance") (rIsi K) := by subst e; exact call_isi
theorem kpg_tup {es : List Expr} {k : Nat} {t : TGs} {n : Nat} {pos : Pos} (hc : X.calm = true) (h : PGs X es t) (e : X.K = K := by rfl)
    (hn : (assignEach es X.env).length = n := by rfl) (hst : (assignEach es X.env).findIdx? (·.1) = none := by rfl) : PG X (.Tuple es k pos) (gTup K n t) := by subst e; exact pg_tup hc h hn hst
theorem kpi_tup {l tg : Expr} {tl : TE} (hl : PE X l tl) (e : X.K = K := by rfl) : PI X tg l (iTup K tl) := by subst e; exact pi_tup hl
theorem kpi_list {l tg : Expr} {tl : TE} (hl : PE X l tl) (e : X.K = K := by rfl) : PI X tg l (iList K tl) := by subst e; exact pi_list hl
theorem kpi_enum {ex : Expr} {ta : TA} {p pos tpos : Pos} {elts : List Expr} {kk : Nat} (hg : Gl X "enumerate") (hm : X.mg "enumerate" = none) (ha : PA X [ex] ta) (e : X.K = K := by rfl) (hs : starEach [ex] X.env = [(false, eval ex X.env)] := by rfl) :
    PI X (.Tuple elts kk tpos) (.Call (.Name "enumerate" p) [ex] [] pos) (iEnum K ta) := by subst e; exact pi_enum hg hm ha hs
theorem kpi_zip {ex e2 : Expr} {ta : TA} {p pos tpos : Pos} {elts : List Expr} {kk : Nat} (hg : Gl X "zip") (hm : X.mg "zip" = none) (ha : PA X [ex, e2] ta) (e : X.K = K := by rfl) (hs : starEach [ex, e2] X.env = (false, eval ex X.env) :: starEach [e2] X.env := by rfl) (hpl : (backTo pos (starEach [e2] X.env)).any (·.1) = false := by rfl) :
    PI X (.Tuple elts kk tpos) (.Call (.Name "zip" p) [ex, e2] [] pos) (iZip K ta) := by subst e; exact pi_zip hg hm ha hs hpl
end
section
variable {S S0 α β : Type}
theorem rn_some {β : Type} {m : M Unit β} {b : β} (h : rn m = some b) : m () = some (b, ()) := by
  unfold rn at h
  cases e : m () with
  | none => rw [e] at h; cases h
  | some p => rw [e] at h; cases h; rfl
/-- the end of a pure def -/
theorem ok_P {R : Rl β} {Q : VK} {t : TS} {σ : L2.St} {F H : Hp} {O : Ch} {b : β} {m : M Unit β} (W : Wd F H O) (hm : rn m = some b) (q : ∀ v F' H', Same F F' → Wd F' H' O → R.r F' v b → Q v H')
    (h : B t σ F emp (pRt emp R) m) : t { nx := fun _ H' => Q .non H', rt := Q } σ H :=
  h () (b, ()) (rn_some hm) F H [] O (SameR _) rfl W _ fun v F' H' c' s o w r => q v F' H' s (by rw [show c' = [] from o] at w; exact w) r
/-- .. whose result is owned -/
theorem ok_Po {Bf : V → Ow β} {Q : VK} {t : TS} {σ : L2.St} {F H : Hp} {O : Ch} {b : β} {m : M Unit β} (W : Wd F H O) (hm : rn m = some b) (q : ∀ v F' H' cb, Same F F' → (Bf v).o F' b cb → Wd F' H' (cb ++ O) → Q v H')
    (h : B t σ F emp (pRo emp Bf) m) : t { nx := fun _ H' => Q .non H', rt := Q } σ H :=
  h () (b, ()) (rn_some hm) F H [] O (SameR _) rfl W _ fun v F' H' c' cb s o ob w => q v F' H' cb s ob (by rw [show c' = [] from o] at w; exact w)
/-- the end of a def with owned state -/
theorem ok_S {A : Ow S} {R : Rl β} {Q : VK} {t : TS} {σ : L2.St} {F H : Hp} {c O : Ch} {s s' : S} {b : β} {m : M S β} (W : Wd F H (c ++ O)) (ho : A.o F s c) (hm : m s = some (b, s')) (q : ∀ v F' H' c', Same F F' → A.o F' s' c' → Wd F' H' (c' ++ O) → R.r F' v b → Q v H')
    (h : B t σ F A (pRt A R) m) : t { nx := fun _ H' => Q .non H', rt := Q } σ H :=
  h s (b, s') hm F H c O (SameR _) ho W _ q
/-- .. that returns nothing -/
theorem ok_SN {A : Ow S} {Q : VK} {t : TS} {σ : L2.St} {F H : Hp} {c O : Ch} {s s' : S} {m : M S Unit} (W : Wd F H (c ++ O)) (ho : A.o F s c) (hm : m s = some ((), s')) (q : ∀ v F' H' c', Same F F' → A.o F' s' c' → Wd F' H' (c' ++ O) → rNone.r F' v () → Q v H')
    (h : B t σ F A (pNx A fun _ _ _ => True) m) : t { nx := fun _ H' => Q .non H', rt := Q } σ H :=
  h s ((), s') hm F H c O (SameR _) ho W _ fun F' H' c' σ' s o w _ => q .non F' H' c' s o w rfl
end
end T

/-! T6: owned rows, freezing, known defs, the law's start. -/
namespace T
open PySem L2
section
variable {S S' S0 T' α β γ Ω ρ Z : Type} {R : Rl α} {R' : Rl β} {U : Rl γ} {K : PySem.W.Frag} {σ : L2.St} {F F' : Hp} {A : Ow S} {A' : Ow S'} {te ta tb ti to : TE} {u w t : TS} {P : Post Ω} {v : V} {j : Nat}
/-! a part is taken out -/
structure Rmv (A : Ow S) (A' : Ow S') (B : Ow T') (g : S → T') (π : S → S') : Prop where
  sp : ∀ {F : Hp} {s : S} {c : Ch}, A.o F s c → ∃ c1 c2, c.Perm (c1 ++ c2) ∧ B.o F (g s) c1 ∧ A'.o F (π s) c2
theorem rm_r {A : Ow S} {B : Ow T'} : Rmv (star A B) A B (fun s => s.2) (fun s => s.1) := ⟨fun ⟨c1, c2, e, a, b⟩ => ⟨c2, c1, by rw [e]; exact List.perm_append_comm, b, a⟩⟩
theorem rm_l {B : Ow T'} {C : Ow ρ} {g : S → T'} {π : S → S'} (h : Rmv A A' B g π) : Rmv (star A C) (star A' C) B (fun s => g s.1) (fun s => (π s.1, s.2)) := ⟨fun ⟨ca, cb, e, a, b⟩ => by
  obtain ⟨c1, c2, pm, hb, ha⟩ := h.sp a
  exact ⟨c1, c2 ++ cb, by rw [e, ← List.append_assoc]; exact pm.append_right cb, hb, c2, cb, rfl, ha, b⟩⟩
/-- an owned list is frozen -/
def fzL {S S' T Ω : Type} (g : S → T) (π : S → S') (k : T → S' → Option Ω) : S → Option Ω := fun s => k (g s) (π s)
theorem b_fzL {g : S → List α} {π : S → S'} {f : List α → S' → Option Ω} (h : Rmv A A' (oLst R v) g π) (k : ∀ xs F', Same F F' → (rLst R).r F' v xs → B u σ F' A' P (f xs)) : B u σ F A P (fzL g π f) := fun s w hm F1 H c O sm ho W D q => by
  obtain ⟨c1, c2, pm, ⟨l, vs, rfl, rfl, rp⟩, o2⟩ := h.sp ho
  have W2 : Wd F1 H ((l, .lst vs) :: (c2 ++ O)) := W.perm (pm.append_right O)
  have s2 := Wd.frzS W2
  exact k (g s) _ (sm.trans s2) ⟨l, vs, rfl, upd_same, paired_mono (fun _ _ => R.mono s2) rp⟩ (π s) w hm _ H c2 O (SameR _) (A'.mono s2 o2) (Wd.frz W2) D (P.mono s2 q)
/-- an owned thing is dropped -/
def drL {S S' Ω : Type} (π : S → S') (k : S' → Option Ω) : S → Option Ω := fun s => k (π s)
theorem b_drL {B' : Ow T'} {g : S → T'} {π : S → S'} {f : S' → Option Ω} (h : Rmv A A' B' g π) (k : B u σ F A' P f) : B u σ F A P (drL π f) := fun s w hm F1 H c O sm ho W D q => by
  obtain ⟨c1, c2, pm, _, o2⟩ := h.sp ho
  exact k (π s) w hm F1 H c2 O sm o2 ((W.perm (pm.append_right O)).sublist (List.Sublist.append (List.sublist_append_right c1 c2) (List.Sublist.refl O))) D q
/-! an owned row of unlike things -/
def oLh {α : Type} (T : Ar α) (v : V) : Ow α where
  o := fun F x c => ∃ l vs, v = .ref l ∧ c = [(l, .lst vs)] ∧ T.r F vs x
  mono := fun s ⟨l, vs, e, h, r⟩ => ⟨l, vs, e, h, T.mono s r⟩
theorem eo_lsth {ar : TA} {T : Ar β} {m' : M S β} {n : Nat} [hz : ArN T n] (hn : n ≤ 100) (h : EvA ar σ F A T m') : EvO (tLst ar) σ F A (oLh T) m' := fun s b s' hm F1 H c O sm ho W Q q =>
  h s b s' hm F1 H c O sm ho W _ fun vs F2 H2 c2 s2 o2 W2 r2 => ⟨by rw [hz.len _ _ _ r2]; exact Nat.le_trans hn (by decide), fun p np =>
    q (.ref p) _ _ c2 [(p, .lst vs)] s2 o2 ⟨p, vs, rfl, rfl, r2⟩ (W2.newO np)⟩
theorem ev_prjO {X : Ar α} {i : Nat} {f : α → β} {k : Int} {g : S → α} {p : S → α → S} (hv : σ[j]? = some (some v)) (e : Emb A (oLh X v) g p) (h : Prj X i R' f) (hk : k = (i : Int) := by rfl) : Ev (tOp (rIxL K) (tVar j) (tC (.int k))) σ F A R' (gtL g fun x => some (f x)) := fun s b s' hm F1 H c O sm ho W Q q => by
  obtain ⟨h2, rfl⟩ := gtL_some hm
  cases h2
  subst hk
  obtain ⟨c1, c2, pm, ⟨l, vs, rfl, rfl, rp⟩, _⟩ := e.split ho
  obtain ⟨w, e1, r1⟩ := h.at_ rp
  have W2 : Wd F1 H ((l, .lst vs) :: (c2 ++ O)) := W.perm (pm.append_right O)
  exact ⟨_, hv, l, vs, _, w, rfl, rfl, SqL.of W2.hd, atI_ofNat e1, q w F1 H c (SameR _) ho W r1⟩
/-- the i-th of a row may be stored -/
structure Pst {α β : Type} (T : Ar α) (i : Nat) (R : Rl β) (f : α → β → α) : Prop where
  st : ∀ {F : Hp} {vs : List V} {x : α} {v : V} {y : β}, T.r F vs x → R.r F v y → i < vs.length ∧ T.r F (vs.set i v) (f x y)
theorem pst_0 {T : Ar β} : Pst (arC R T) 0 R (fun x y => (y, x.2)) := ⟨fun ⟨v, r, e, h, t⟩ r' => by subst e; exact ⟨by simp, _, _, rfl, r', t⟩⟩
theorem pst_1 : Pst (arOne R) 0 R (fun x y => y) := ⟨fun ⟨v, e, h⟩ r' => by subst e; exact ⟨by simp, _, rfl, r'⟩⟩
theorem pst_s {T : Ar β} {i : Nat} {f : β → γ → β} (h : Pst T i U f) : Pst (arC R T) (i + 1) U (fun x y => (x.1, f x.2 y)) := ⟨fun ⟨v, r, e, h1, t⟩ r' => by
  obtain ⟨a, b⟩ := h.st t r'
  subst e
  exact ⟨by simpa using a, _, _, rfl, h1, b⟩⟩
theorem ixN_ofNat {n i : Nat} (h : i < n) : ixN n (i : Int) = some i := by
  unfold ixN; rw [if_pos (by omega), if_pos (by omega)]; simp
/-- x[k] = e of an owned row -/
theorem b_setH {X : Ar β} {i : Nat} {f : β → α → β} {k : Int} {g : S → β} {p : S → β → S} {m : M S α} {h : S → Option Ω} (hv : σ[j]? = some (some v)) (e : Emb A (oLh X v) g p) (hp : Pst X i R f) (he : Ev te σ F A R m) (hu : B u σ F A P h) (hk : k = (i : Int) := by rfl) :
    B (tSeq (tAsg te (gSub (tVar j) (tC (.int k)) rSetL)) u) σ F A P (bnd m fun x => bnd (upL g p fun y => some (f y x)) fun _ => h) := fun s w hm F1 H c O sm ho W D q => by
  subst hk
  obtain ⟨x, s1, h1, hm⟩ := bnd_some hm
  obtain ⟨_, s2, h2, hm⟩ := bnd_some hm
  obtain ⟨y, h2a, rfl⟩ := upL_some h2
  cases h2a
  refine he s x s1 h1 F1 H c O sm ho W _ fun z F2 H2 c2 sm2 o2 W2 r2 => ⟨v, hv, ?_⟩
  obtain ⟨c3, c4, pm, ⟨l, vs, e1, rfl, rp⟩, kk⟩ := e.split o2
  obtain ⟨hl, rp'⟩ := hp.st rp r2
  have W3 : Wd F2 H2 ((l, .lst vs) :: (c4 ++ O)) := W2.perm (pm.append_right O)
  refine ⟨l, vs, _, i, e1, rfl, W3.hd, ixN_ofNat hl, ?_⟩
  obtain ⟨c5, o5, pm5⟩ := kk F2 _ [(l, .lst (vs.set i z))] (SameR _) ⟨l, _, e1, rfl, rp'⟩
  exact hu _ w hm F2 _ c5 O (sm.trans sm2) o5 (W3.set.perm (pm5.append_right O).symm) D (P.mono sm2 q)
end
/-! known defs -/
structure Kn (P : Program) (w : World) (K : PySem.W.Frag) (mg : Str → Option Value) (base : Heap) (CX : CXT) (k : Nat) (x : Str) (ps : List Str) (sp : Sp) : Prop where
  ex : ∃ f fd, mg x = some (.ref f) ∧ PySem.W.keepIn K (.ref f) = true ∧ Binds K fd ps [] ∧ FnOk P w K mg base CX k f fd ps sp
section
variable {X : Cx}
theorem pe_kn {k j : Nat} {x : Str} {ps : List Str} {sp : Sp} {p pos : Pos} {e : Expr} {es : List Expr} {t : TA} (h : Kn X.prog X.w X.K X.mg X.base CX0 j x ps sp) (hr : Room k X.A) (hj : j ≤ k) (hg : Gl X x) (ha : PA X (e :: es) t) (hdb : (x == ("__debug__" : Str)) = false := by decide)
    (he : starEach (e :: es) X.env = (false, eval e X.env) :: starEach es X.env := by rfl) (hpl : (backTo pos (starEach es X.env)).any (·.1) = false := by rfl) : PE X (.Call (.Name x p) (e :: es) [] pos) (tCall sp [] E0 t) := by
  obtain ⟨f, fd, h1, h2, h3, h4⟩ := h.ex
  exact pe_call h4 (hr.mono hj) hg h1 h2 h3 .nil pass0 ha hdb he hpl
theorem pe_kn0 {k j : Nat} {x : Str} {ps : List Str} {sp : Sp} {p pos : Pos} (h : Kn X.prog X.w X.K X.mg X.base CX0 j x ps sp) (hr : Room k X.A) (hj : j ≤ k) (hg : Gl X x) (hdb : (x == ("__debug__" : Str)) = false := by decide) : PE X (.Call (.Name x p) [] [] pos) (tCall sp [] E0 tNil) := by
  obtain ⟨f, fd, h1, h2, h3, h4⟩ := h.ex
  exact pe_call0 h4 (hr.mono hj) hg h1 h2 h3 .nil pass0 hdb
end
/-! the law's first row: tape = [list(script), 0, 0] -/
def tapeA : Ar (List Int × Int × Int) := arC (rLst rInt) (arC rInt (arOne rInt))
abbrev Tape := List Int × Int × Int
theorem paired_map {α : Type} {Q : V → α → Prop} (f : α → V) (h : ∀ x, Q (f x) x) : ∀ xs : List α, Paired Q (xs.map f) xs
  | [] => .nil
  | x :: xs => .cons (h x) (paired_map f h xs)
theorem law_start {K : PySem.W.Frag} {a : Addr} {ns : List Int} {u : TS} {D : Ends} {H : Hp} {σ : L2.St} {i : Nat} {β : Type} {R : Rl β} {m : M Tape β} {b : β} {s' : Tape} (hσ : σ[0]? = some (some (.ref a))) (hS : SqL K H a (ns.map V.int))
    (hm : m (ns, 0, 0) = some (b, s')) (k : ∀ v F, B u (σ.set i (some v)) F (oLh tapeA v) (pRt (oLh tapeA v) R) m) (hD : ∀ v F' H', R.r F' v b → D.rt v H') :
    tSeq (tAsg (tLst (tCons (tCB (rListOf K) (tCons (tVar 0) tNil)) (tCons (tC (.int 0)) (tCons (tC (.int 0)) tNil)))) (gName i)) u D σ H := by
  refine ⟨_, hσ, a, _, rfl, .inl hS, fun l nl => ⟨by show 3 ≤ sizeLine; decide, fun p np => ?_⟩⟩
  have W0 : Wd (fun _ => none) H [] := ⟨fun _ _ e => (nomatch e), fun _ h => (nomatch h), List.nodup_nil⟩
  have W1 := W0.newF (o := .lst (ns.map V.int)) nl
  have W2 := W1.newO (o := .lst [.ref l, .int 0, .int 0]) np
  exact k (.ref p) _ (ns, 0, 0) (b, s') hm _ _ [(p, .lst [.ref l, .int 0, .int 0])] [] (SameR _) ⟨p, _, rfl, rfl, _, _, rfl, ⟨l, _, rfl, upd_same, paired_map V.int (fun _ => rfl) ns⟩, _, _, rfl, rfl, _, rfl, rfl⟩ W2 D
    fun v F' H' c' _ _ _ r => hD v F' H' r
end T

/-! T0: rules over the layer that it lacks: enumerate(tuple), sum(tuple), tuple * int at any count. -/
namespace T
open PySem L2 PySem.Spec PyProof.Rows
open AutoSeq1 (wpAny_loadPart')
theorem meets_enumerate_new1 {v : Value} {o : Obj} {H : Heap → Prop} (B : Begins v o H) :
    Meets (Builtin.«enumerate.__new__» ⟨[.type "enumerate", v], []⟩) (fun _ R s => H s.heap ∧
      R (.ok (.ret (.ref (s.heap.push o).objs.size))) { s with heap := (s.heap.push o).push { cls := .type "enumerate", data := .fields #[.none, .bool false, .ref s.heap.objs.size, rawInt 0, .none, .none] } }) :=
  .of_wp fun prog w A R s h => by
    obtain ⟨hp, g, d, tk, os⟩ := s; obtain ⟨h1, h⟩ := h
    have hsub := sub_enumerate
    have q1 : ∀ {A' : Around} {E : Value → Shared → Prop} {Q : Value → Shared → Prop}, Q (.ref hp.objs.size) ⟨hp.push o, g, d, tk, os⟩ → wpAny (model prog w) A' (pyIter v) Q E ⟨hp, g, d, tk, os⟩ :=
      fun q => B.iter prog w _ _ ⟨hp, g, d, tk, os⟩ _ h1 q
    wp_walk using q1
    refine wpAny_stack_any fun st => wpAny_pure ?_
    split
    · rename_i c _ _ _ _ _
      cases (c == Value.type "enumerate")
      · wp_walk using q1
        exact ⟨_, rfl, h⟩
      · wp_walk using q1
        exact ⟨_, rfl, h⟩
    · wp_walk using q1
      exact ⟨_, rfl, h⟩
section
variable {prog : Program} {w : World} {A : Around} {E : Value → Shared → Prop} {s : Shared}
theorem enum_begins1 {v : Value} {o : Obj} {H : Heap → Prop} {Q : Value → Shared → Prop} (B : Begins v o H) (h1 : H s.heap)
    (h : ∀ h', IsEnum h' (s.heap.objs.size + 1) s.heap.objs.size 0 .none → h'.get? s.heap.objs.size = some o → h'.objs.size = s.heap.objs.size + 2 →
      (∀ b o, s.heap.get? b = some o → h'.get? b = some o) → Q (.ref (s.heap.objs.size + 1)) { s with heap := h' }) :
    wpAny (model prog w) A (call (.type "enumerate") [v]) Q E s := by
  refine callType_new F.called_enumerate (by decide) (F.typeCall_enumerate_1 _) (F.newCall_enumerate_1 _) (fun obj => F.args_object_init_2 obj _) F.entry_enumerate_new
    (meets_enumerate_new1 B) ⟨h1, ?_⟩
  have hz : (s.heap.push o).objs.size = s.heap.objs.size + 1 := Heap.size_push ..
  show _ ∧ _
  rw [hz]
  have he : IsEnum ((s.heap.push o).push { cls := .type "enumerate", data := .fields #[.none, .bool false, .ref s.heap.objs.size, rawInt 0, .none, .none] }) (s.heap.objs.size + 1) s.heap.objs.size 0 .none := by
    have := Heap.get?_push_size (s.heap.push o) (o := { cls := .type "enumerate", data := .fields #[.none, .bool false, .ref s.heap.objs.size, rawInt 0, .none, .none] }) rfl
    rw [hz] at this; exact this
  refine ⟨⟨_, he, rfl⟩, h _ he (Heap.get?_push_of_some _ (Heap.get?_push_size _ B.free)) (by rw [Heap.size_push, hz]) fun b o x => Heap.get?_push_of_some _ (Heap.get?_push_of_some _ x)⟩
end
theorem wpAny_pyNext_enum_endT {prog : Program} {w : World} {A : Around} {E : Value → Shared → Prop} {s : Shared} {e it l : Addr} {i : Nat} {items : Array Value} {old : Value} {Q : Option Value → Shared → Prop} (hh : A.handled = none)
    (he : IsEnum s.heap e it i old) (hit : s.heap.IsTupleIter it l i) (hl : s.heap.IsTuple l items) (hx : items[i]? = none)
    (hQ : ∀ h', Heap.ExtBut it s.heap h' → Q none { s with heap := h' }) : wpAny (model prog w) A (pyNext (.ref e)) Q E s := by
  have hT : s.TypeIs (.ref e) "enumerate" := ⟨_, he, rfl⟩
  unfold pyNext
  refine wpAny_bind (wpAny_attempt (wpAny_callSpecial?_slot (name := Str.ofString "__next__") hT F.slot_enumerate_next
    (wpAny_call_entry F.slot_enumerate_next hT F.entry_enumerate_next ?_ (F.args_enumerate_next_1 _))))
  show wpAny _ _ (field (.ref e) 2 >>= _) _ _ _
  refine wpAny_bind (wpAny_field he rfl (x := .ref it) rfl ?_)
  refine wpAny_bind (wpAny_nextOf_tuple_end hh hit hl hx fun h' x he' hx' => ?_)
  obtain ⟨o, ho, hc⟩ := hx'
  refine wpAny_bind (wpAny_isInstance (T := "StopIteration") (b := true) ⟨o, ho, hc⟩ isSubtype_stop ?_)
  exact wpAny_pure (hQ _ he')
/-- the tuple at a, each item in a new pair with its place -/
def IteT (K : PySem.W.Frag) (a : Addr) : It :=
  ⟨fun i H => ∃ (xs : List V) (x : V), SqT K H a xs ∧ xs[i]? = some x, fun i H v H' => ∃ T x, v = .ref T ∧ H T = none ∧ H' = upd H T (.tup [.int (i : Nat), x]) ∧ ∀ xs, SqT K H a xs → xs[i]? = some x, fun i H => ∃ xs : List V, SqT K H a xs ∧ xs.length ≤ i⟩
theorem turn_enumT {P : Program} {w : World} {K : PySem.W.Frag} {elts : List Expr} {kk : Nat} {tpos : Pos} (a e it : Addr) :
    Turn P w K (.Tuple elts kk tpos) (IteT K a) [e, it] e (fun i h => (∃ old, IsEnum h e it ((i : Nat) : Int) old) ∧ h.IsTupleIter it a i ∧ e ≠ it) where
  mem := by simp
  obj := fun i h st b hb => by
    obtain ⟨⟨old, he⟩, ⟨o, ho, hc, hd⟩, _⟩ := st
    have e' : b = e ∨ b = it := by simpa using hb
    rcases e' with z | z
    · rw [z]; exact ⟨_, he, fun v q => nomatch q⟩
    · rw [z]; exact ⟨o, ho, fun v q => by rw [hd] at q; cases q⟩
  keep := fun i h h' st k => let ⟨⟨old, he⟩, hi, hne⟩ := st; ⟨⟨old, k e (by simp) _ he⟩, hi.at fun o q => k it (by simp) o q, hne⟩
  item := by
    intro X hP hw hK hc i pins s σ H E I hf st hg
    subst hP hw hK
    obtain ⟨⟨old, he⟩, hit, hne⟩ := st
    obtain ⟨xs, x, hq, hx⟩ := hg
    obtain ⟨its, rv, p, hz⟩ := I.tuple hq
    obtain ⟨u, hu, ru⟩ := rv.get hx
    have hel : e < s.heap.objs.size := Heap.lt_size he
    have hil : it < s.heap.objs.size := by obtain ⟨_, q, _⟩ := hit; exact Heap.lt_size q
    have hat : a ≠ it := by
      rintro rfl
      obtain ⟨o, ho, hc, _⟩ := hit
      obtain ⟨o', ho', hc', _⟩ := p
      rw [ho] at ho'; cases ho'; rw [hc] at hc'; simp at hc'
    have hae : e ≠ a := by
      rintro rfl
      obtain ⟨o', ho', hc', _⟩ := p
      rw [he] at ho'; cases ho'; simp at hc'
    have hlt : i < its.toArray.size := by
      have := (List.getElem?_eq_some_iff.mp hu).1
      simpa using this
    refine wpAny_pyNext_enum_itemD (Draws.tuple (prog := X.prog) (w := X.w) (A := X.A.in1) (I.ok.hd hc) it a hat its.toArray) he ⟨hit, p⟩ hlt hne (by simp [hne, hae]) fun u' h' tk hu' ho hit' hT hsz hk => ?_
    have eu : u' = u := by
      have h1 : its[i]? = some u' := by simpa using hu'
      rw [hu] at h1; exact (Option.some.inj h1).symm
    subst eu
    refine ⟨_, rfl, wpAny_letOwnedTupleGo_enum (s := { s with heap := h', toks := tk + 1 }) ho fun h'' he' sb => ?_⟩
    have hT2 : h''.get? s.heap.objs.size = some { cls := .type "tuple", data := .seq #[.int i tk, u'] } := (sb.2 _ (Nat.ne_of_gt hel)).trans hT
    have new : ObjOk X.prog X.w (upd H s.heap.objs.size (.tup [.int (i : Nat), x])) h'' s.heap.objs.size (.tup [.int (i : Nat), x]) :=
      ⟨by show 2 ≤ sizeLine; decide, [.int i tk, u'], .cons ⟨_, rfl⟩ (.cons ru .nil), ⟨_, hT2, rfl, _, rfl⟩⟩
    have I1 : Inv X pins σ (upd H s.heap.objs.size (.tup [.int (i : Nat), x])) { s with heap := h'', toks := tk + 1 } :=
      I.turnedNew (ch := [e, it]) (fun b ob hb q => (sb.2 b (fun z => hb (by simp [z]))).trans (hk b ob (fun z => hb (by simp [z])) (fun z => hb (by simp [z])) q)) hf (Nat.le_refl _) new
    refine ⟨.ref s.heap.objs.size, _, I1, rfl, ⟨_, x, rfl, I.hok.fresh (Nat.le_refl _), rfl, fun ys hy => by rw [I.tuple_inj hy hq]; exact hx⟩, ⟨⟨u', ?_⟩, hit'.1.at fun o q => (sb.2 it (Ne.symm hne)).trans q, hne⟩, fun b hb => ?_⟩
    · have e1 : ((i + 1 : Nat) : Int) = (i : Int) + 1 := by omega
      rw [e1]; exact he'
    · have hb' : b < s.heap.objs.size := by
        have e' : b = e ∨ b = it := by simpa using hb
        rcases e' with z | z
        · rw [z]; exact hel
        · rw [z]; exact hil
      rw [upd_ne (Nat.ne_of_lt hb')]
      exact (hf b hb).1
  done := by
    intro X hP hw hK hc i pins s σ H E I hf st hg
    subst hP hw hK
    obtain ⟨⟨old, he⟩, hit, hne⟩ := st
    obtain ⟨xs, hq, hx⟩ := hg
    obtain ⟨its, rv, p, hz⟩ := I.tuple hq
    obtain ⟨f0, f1, f2, f3, f4, f5⟩ := hf it (by simp)
    have hl := rv.length
    have hsz : its.toArray.size ≤ i := by simp; omega
    refine wpAny_pyNext_enum_endT (I.ok.hd hc) he hit p (by simp; simpa using hsz) fun h' eb => ⟨rfl, I.turned (t' := s.toks) (fun b o hb q => eb b o hb q) f0 f1 f3 f4 f5⟩
  self := fun A i s Q E st h => let ⟨⟨_, he⟩, _⟩ := st; wpAny_pyIter_enum he h
def iEnumT (K : PySem.W.Frag) (ta : TA) : TI := fun σ H R => ta σ H fun vs H1 => ∃ a xs, vs = [.ref a] ∧ SqT K H1 a xs ∧ R (IteT K a) H1
theorem pi_enumT {X : Cx} {e : Expr} {ta : TA} {p pos tpos : Pos} {elts : List Expr} {kk : Nat} (hg : Gl X "enumerate") (hm : X.mg "enumerate" = none) (ha : PA X [e] ta) (hs : starEach [e] X.env = [(false, eval e X.env)] := by rfl) :
    PI X (.Tuple elts kk tpos) (.Call (.Name "enumerate" p) [e] [] pos) (iEnumT X.K ta) := by
  refine ⟨fun pins s σ H R I h => ?_⟩
  refine Call_ (ld_blt I hg hm boot_enumerate (PyProof.Rows.callWith_type1 (thn (ha.run pos pins s σ H _ I h) fun us s1 ⟨vs, H1, I1, r1, q1⟩ => ?_) hs rfl))
  obtain ⟨a, xs, ex, hq, q⟩ := q1
  subst ex
  cases r1 with
  | cons r rr =>
    cases rr
    cases r
    obtain ⟨its, rv, p', hz⟩ := I1.tuple hq
    refine enum_begins1 (begins_tuple a its.toArray) p' fun h' he hit hsz hk => wpAny_pyIter_enum he ?_
    have I2 : Inv X pins σ H1 { s1 with heap := h' } := I1.kept (t' := s1.toks) hk
    refine ⟨s1.heap.objs.size + 1, [s1.heap.objs.size + 1, s1.heap.objs.size], _, _, H1, rfl, I2, turn_enumT a (s1.heap.objs.size + 1) s1.heap.objs.size, ⟨⟨.none, he⟩, ⟨_, hit, rfl, rfl⟩, Nat.succ_ne_self _⟩, fun b hb => ?_, q⟩
    have e' : b = s1.heap.objs.size + 1 ∨ b = s1.heap.objs.size := by simpa using hb
    have hle : s1.heap.objs.size ≤ b := by
      rcases e' with z | z
      · rw [z]; exact Nat.le_add_right _ _
      · rw [z]; exact Nat.le_refl _
    exact I1.fpOk hle (I1.hok.fresh hle)
theorem kpi_enumT {X : Cx} {K : PySem.W.Frag} {ex : Expr} {ta : TA} {p pos tpos : Pos} {elts : List Expr} {kk : Nat} (hg : Gl X "enumerate") (hm : X.mg "enumerate" = none) (ha : PA X [ex] ta) (e : X.K = K := by rfl) (hs : starEach [ex] X.env = [(false, eval ex X.env)] := by rfl) :
    PI X (.Tuple elts kk tpos) (.Call (.Name "enumerate" p) [ex] [] pos) (iEnumT K ta) := by subst e; exact pi_enumT hg hm ha hs
theorem walk_enumT {K : PySem.W.Frag} {a : Addr} {xs : List V} : Walk (IteT K a) xs.length (fun H => SqT K H a xs) (YPair (fun i => some (.int (i : Nat))) (fun i => xs[i]?)) := by
  refine ⟨fun i _ hi q => ⟨xs, xs[i], q, by simp [hi]⟩, fun _ q => ⟨xs, q, Nat.le_refl _⟩, fun i H v H' _ q y => ?_⟩
  obtain ⟨T, x, h1, h2, h3, h4⟩ := y
  exact ⟨T, .int (i : Nat), x, h1, h2, h3, rfl, h4 xs q⟩
theorem ei_enumT {S α : Type} {te : TE} {σ : L2.St} {F : Hp} {A : Ow S} {R : Rl α} {ml : M S (List α)} {K : PySem.W.Frag} (h : Ev te σ F A (rTup R) ml) : EvI (iEnumT K (tCons te tNil)) σ F A (rTh (arC rInt (arOne R))) (bnd ml fun xs => ret (enumL xs)) := fun s b s' hm F1 H c O sm ho W Q q => by
  obtain ⟨xs, s1, h1, hm⟩ := bnd_some hm
  obtain ⟨rfl, rfl⟩ := ret_some hm
  refine h s _ _ h1 F1 H c O sm ho W _ fun v F2 H2 c2 s2 o2 W2 r2 => ?_
  obtain ⟨p, vs, rfl, hp, rp⟩ := r2
  refine ⟨p, vs, rfl, SqT.of (W2.sub _ _ hp), q _ F2 H2 c2 s2 o2 W2 ?_⟩
  have hl := paired_len rp
  refine itr_pair (n := vs.length) (by rw [rngL_len, hl]; omega) (walk_enumT (K := K) (a := p) (xs := vs)) (fun F3 H3 s3 s4 => SqT.of (s4 _ _ (s3 _ _ hp))) (fun i v e hi => ?_) (fun i v e hi => paired_get rp e)
  cases e
  exact ⟨(i : Int), by rw [rngL_get 0 _ i (by omega)]; simp, rfl⟩
/-! sum(tuple) -/
def rSumT (K : PySem.W.Frag) : List V → Hp → VK → Prop := fun vs H Q => ∃ (a : Addr) (ns : List Int), vs = [V.ref a] ∧ SqT K H a (ns.map V.int) ∧ Q (.int ns.sum) H
theorem cr_sumT {X : Cx} (hc : X.calm = true) : CallR X (.builtin "sum") (rSumT X.K) := by
  intro pins s σ H vs us Q I r h
  obtain ⟨a, ns, rfl, hs, q⟩ := h
  obtain ⟨its, rv, hl, _⟩ := I.tuple hs
  rw [Vals.ref1 r]
  have hi := rv.ints
  obtain ⟨xs, hx⟩ := hi.allInts.items
  have hn : numsOf its.toArray.toList = ns := by rw [show its.toArray.toList = its from rfl, hi.numsOf]
  rw [hx] at hl hn
  rw [nums_intItems] at hn
  refine PySem.W.ktm_sumG (I.ok.hd hc) hl fun h' tk t' hk => ?_
  rw [preSum_eq, List.take_of_length_le (by simp), hn]
  exact ⟨.int _, H, I.kept hk, ⟨_, rfl⟩, q⟩
theorem kc_sumT {X : Cx} {K : PySem.W.Frag} (hc : X.calm = true) (e : X.K = K := by rfl) : CallR X (.builtin "sum") (rSumT K) := by subst e; exact cr_sumT hc
theorem vl_sumT {K : PySem.W.Frag} : VLc (rSumT K) (arOne (rTup rInt)) rInt (fun xs => some xs.sum) := fun F H O xs a c W ⟨v, e, p, vs, ev, hp, rp⟩ hf Q q => by
  cases hf
  exact ⟨p, a, by rw [e, ev], SqT.of (by rw [← vs_int rp]; exact W.sub _ _ hp), q _ F H (SameR _) W rfl⟩
/-! tuple * int -/
theorem tuple_mul1 (l : Addr) (items : Array Value) (n : Nat) (dd : Option Addr) (sl : Array (Option Value)) (x : Int) (u : Tok) (c0 : (decide (x < -(2 ^ 63)) || decide (x ≥ 2 ^ 63)) = false) (c1 : (items.isEmpty || x == 1) = true) :
    Meets (Builtin.«tuple.__mul__» ⟨[.ref l, .int x u], []⟩) (fun _ R s => s.heap.get? l = some { cls := .type "tuple", dict := dd, data := .seq items n, slots := sl } ∧
      R (.ok (.ret (Value.ref l))) s) :=
  .of_wp fun prog w A R s h => by
    obtain ⟨hp, g, d, tk, os⟩ := s
    obtain ⟨hl, h⟩ := h
    have f1 := AutoSeq1.idx_int
    wp_walk using wpAny_loadPart' hl
    repeat (first
      | (refine wpAny_ite_false (decide_eq_false (by rw [c0]; exact Bool.false_ne_true)) ?_; wp_walk using wpAny_loadPart' hl)
      | (refine wpAny_ite_true (decide_eq_true c1) ?_; wp_walk using wpAny_loadPart' hl))
    exact ⟨_, rfl, h⟩
def rRepT1 (K : PySem.W.Frag) : R2 := fun x y H Q => ∃ l xs, x = .ref l ∧ y = .int 1 ∧ SqT K H l xs ∧ Q (.ref l) H
theorem op_repT1 {X : Cx} : OpR X (binaryOp .Mult) (rRepT1 X.K) := by
  intro pins s σ H x y v u Q I rx ry h
  obtain ⟨l, xs, rfl, rfl, hT, q⟩ := h
  cases rx
  obtain ⟨t, rfl⟩ := ry
  obtain ⟨its, r, ⟨⟨cls, dd, data, sl⟩, ho, hc, n, hd⟩, hs⟩ := I.tuple hT
  simp only at hc hd
  subst hc hd
  refine wpAny_binaryOp_repeat_ref (T := "tuple") (U := "int") (by decide) ⟨_, ho, rfl⟩ (fun s' => typeIs_int s' 1 t) noFill_tuple_mul F.fills_int_mul F.slot_int_rmul repeat_tuple F.slot_int_index.lookup
    (call_meets F.slot_int_rmul (typeIs_int s 1 t) F.entry_int_rmul (F.args_int_rmul_2 _ _) (int_rmul_tuple 1 t l its.toArray n dd sl)
      ⟨ho, rfl, ⟨_, ho, rfl⟩, call_meets F.slot_tuple_mul ⟨_, ho, rfl⟩ F.entry_tuple_mul (F.args_tuple_mul_2 _ _) (tuple_mul1 l its.toArray n dd sl 1 t (by decide) (by simp)) ⟨ho, ?_⟩⟩)
  exact ⟨.ref l, H, I, rfl, q⟩
def rRepTT (K : PySem.W.Frag) : R2 := fun x y H Q => rRepT1 K x y H Q ∨ rRepT K x y H Q
theorem kop_repT {X : Cx} {K : PySem.W.Frag} (e : X.K = K := by rfl) : OpR X (binaryOp .Mult) (rRepTT K) := by subst e; exact op_repT1.or op_repT
def repT {α : Type} (xs : List α) (k : Int) : Option (List α) := match xs with
  | [] => none
  | x :: ys => if 1 ≤ k ∧ k < 1000 ∧ (x :: ys).length < 1000 then some (List.replicate k.toNat (x :: ys)).flatten else none
theorem vl_repT {α : Type} {R : Rl α} {K : PySem.W.Frag} : VL2 (rRepTT K) (rTup R) rInt (rTup R) repT := fun F H O x y a b c W ⟨p1, vs, ex, hp, rp⟩ hy hf Q q => by
  cases a with
  | nil => cases hf
  | cons x0 ys =>
    simp only [repT] at hf
    split at hf
    · rename_i h; cases hf
      have hne : vs ≠ [] := fun e => by subst e; cases rp
      by_cases h1 : b = 1
      · subst h1
        refine .inl ⟨p1, vs, ex, hy, SqT.of (W.sub _ _ hp), q _ F H (SameR _) W ⟨p1, vs, rfl, hp, ?_⟩⟩
        simpa using rp
      · refine .inr ⟨p1, b, vs, ex, hy, SqT.of (W.sub _ _ hp), hne, by omega, by omega, by rw [paired_len rp]; omega, fun p np => ?_⟩
        exact q _ _ _ (W.sameF np) (W.newF np) ⟨p, _, rfl, upd_same, paired_mono (fun _ _ => R.mono (W.sameF np)) (paired_rep rp _)⟩
    · cases hf
end T

/-! T7: more rules by values. -/
namespace T
open PySem L2
section
variable {S S' α β γ Ω : Type} {R : Rl α} {R' : Rl β} {U : Rl γ} {K : PySem.W.Frag} {σ : L2.St} {F : Hp} {A : Ow S} {te ta tb tc : TE} {u : TS} {P : Post Ω} {v : V} {j : Nat} {m : M S α}
theorem ri {F : Hp} (i : Int) : rInt.r F (.int i) i := rfl
theorem ev_neg {m : M S Int} (ha : Ev ta σ F A rInt m) : Ev (tUn (rU fun i => .int (-i)) ta) σ F A rInt (bnd m fun a => ret (-a)) := ev_un (fun F H x a h Q q => ⟨a, h, q _ rfl⟩) ha
theorem ev_ty {n : String} : Ev (tC (.ty n)) σ F A (rV (.ty n)) (ret ()) := ev_c fun _ => rfl
/-- x += e, ints, x told by its row -/
theorem b_augV {x0 : Int} {m : M S Int} {h : Int → Int → Int} {f : Int → S → Option Ω} (hr : rInt.r F v x0) (hv : σ[j]? = some (some v)) (he : Ev te σ F A rInt m) (k : ∀ y F', Same F F' → B u (σ.set j (some (.int (h x0 y)))) F' A P (f y)) :
    B (tSeq (tAug j te (ipI h)) u) σ F A P (bnd m f) := fun s w hm F1 H c O sm ho W D q => by
  obtain ⟨y, s1, h1, hm⟩ := bnd_some hm
  refine ⟨_, hv, he s y s1 h1 F1 H c O sm ho W _ fun z F2 H2 c2 sm2 o2 W2 r2 => ⟨x0, y, hr, r2, ?_⟩⟩
  exact k y F2 (sm.trans sm2) s1 w hm F2 H2 c2 O (SameR _) o2 W2 D (P.mono sm2 q)
theorem b_pass {f : S → Option Ω} (k : B u σ F A P f) : B (tSeq tNext u) σ F A P f := fun s w hm F1 H c O sm ho W D q => k s w hm F1 H c O sm ho W D q
/-! slices -/
theorem ep_none : EvP tNoPart σ F A (ret none : M S (Option Int)) := fun s b s' hm F1 H c O sm ho W Q q => by
  obtain ⟨rfl, rfl⟩ := ret_some hm
  exact q F1 H c (SameR _) ho W
theorem ep_some {m : M S Int} (h : Ev te σ F A rInt m) : EvP (tPart te) σ F A (bnd m fun x => ret (some x)) := fun s b s' hm F1 H c O sm ho W Q q => by
  obtain ⟨x, s1, h1, hm⟩ := bnd_some hm
  obtain ⟨rfl, rfl⟩ := ret_some hm
  exact h s x _ h1 F1 H c O sm ho W _ fun v F2 H2 c2 s2 o2 W2 r2 => ⟨x, r2, q F2 H2 c2 s2 o2 W2⟩
def cutV' (xs : List α) (lo hi : Option Int) : List α := (xs.drop (HT.sIx xs.length 0 lo)).take (HT.sIx xs.length xs.length hi - HT.sIx xs.length 0 lo)
theorem paired_drop {Q : V → α → Prop} : ∀ {vs : List V} {xs : List α} (n : Nat), Paired Q vs xs → Paired Q (vs.drop n) (xs.drop n)
  | _, _, 0, h => h
  | _, _, _ + 1, .nil => .nil
  | _, _, n + 1, .cons _ t => paired_drop n t
theorem paired_take {Q : V → α → Prop} : ∀ {vs : List V} {xs : List α} (n : Nat), Paired Q vs xs → Paired Q (vs.take n) (xs.take n)
  | _, _, 0, _ => .nil
  | _, _, _ + 1, .nil => .nil
  | _, _, n + 1, .cons r t => .cons r (paired_take n t)
theorem paired_cut {Q : V → α → Prop} {vs : List V} {xs : List α} (h : Paired Q vs xs) (lo hi : Option Int) : Paired Q (cutV vs lo hi) (cutV' xs lo hi) := by
  unfold cutV cutV'; rw [paired_len h]; exact paired_take _ (paired_drop _ h)
variable {tl th : TO} {ml mh : M S (Option Int)} {mx : M S (List α)}
theorem eo_slL (h : Ev te σ F A (rLst R) mx) (hl : EvP tl σ F A ml) (hh : EvP th σ F A mh) : EvO (tSl (rSlL K) te tl th) σ F A (oLst R) (bnd mx fun x => bnd ml fun lo => bnd mh fun hi => ret (cutV' x lo hi)) := fun s b s' hm F1 H c O sm ho W Q q => by
  obtain ⟨x, s1, h1, hm⟩ := bnd_some hm
  obtain ⟨lo, s2, h2, hm⟩ := bnd_some hm
  obtain ⟨hi, s3, h3, hm⟩ := bnd_some hm
  obtain ⟨rfl, rfl⟩ := ret_some hm
  refine h s x s1 h1 F1 H c O sm ho W _ fun v F2 H2 c2 sm2 o2 W2 ⟨p, vs, e, hp, rp⟩ => ?_
  refine hl s1 lo s2 h2 F2 H2 c2 O (sm.trans sm2) o2 W2 _ fun F3 H3 c3 sm3 o3 W3 => ?_
  refine hh s2 hi _ h3 F3 H3 c3 O ((sm.trans sm2).trans sm3) o3 W3 _ fun F4 H4 c4 sm4 o4 W4 => ?_
  have hp4 := sm4 _ _ (sm3 _ _ hp)
  exact ⟨p, vs, e, SqL.of (W4.sub _ _ hp4), fun l nl => q _ F4 _ c4 [(l, .lst (cutV vs lo hi))] ((sm2.trans sm3).trans sm4) o4 ⟨l, _, rfl, rfl, paired_mono (fun _ _ => R.mono (sm3.trans sm4)) (paired_cut rp lo hi)⟩ (W4.newO nl)⟩
theorem ev_slT (h : Ev te σ F A (rTup R) mx) (hl : EvP tl σ F A ml) (hh : EvP th σ F A mh) : Ev (tSl (rSlA K) te tl th) σ F A (rTup R) (bnd mx fun x => bnd ml fun lo => bnd mh fun hi => ret (cutV' x lo hi)) := fun s b s' hm F1 H c O sm ho W Q q => by
  obtain ⟨x, s1, h1, hm⟩ := bnd_some hm
  obtain ⟨lo, s2, h2, hm⟩ := bnd_some hm
  obtain ⟨hi, s3, h3, hm⟩ := bnd_some hm
  obtain ⟨rfl, rfl⟩ := ret_some hm
  refine h s x s1 h1 F1 H c O sm ho W _ fun v F2 H2 c2 sm2 o2 W2 ⟨p, vs, e, hp, rp⟩ => ?_
  refine hl s1 lo s2 h2 F2 H2 c2 O (sm.trans sm2) o2 W2 _ fun F3 H3 c3 sm3 o3 W3 => ?_
  refine hh s2 hi _ h3 F3 H3 c3 O ((sm.trans sm2).trans sm3) o3 W3 _ fun F4 H4 c4 sm4 o4 W4 => ?_
  have hp4 := sm4 _ _ (sm3 _ _ hp)
  have rp4 : Paired (R.r F4) vs x := paired_mono (fun _ _ => R.mono (sm3.trans sm4)) rp
  refine ⟨p, vs, e, SqT.of (W4.sub _ _ hp4), fun hw => ?_, fun _ l nl => ?_⟩
  · refine q _ F4 H4 c4 ((sm2.trans sm3).trans sm4) o4 W4 ⟨p, vs, rfl, hp4, ?_⟩
    have e1 : cutV' x lo hi = x := by
      unfold cutV'; rw [paired_len rp] at hw; rw [hw.1, hw.2]; simp
    rw [e1]; exact rp4
  · have sF := W4.sameF (o := .tup (cutV vs lo hi)) nl
    exact q _ _ _ c4 (((sm2.trans sm3).trans sm4).trans sF) (A.mono sF o4) (W4.newF nl) ⟨l, _, rfl, upd_same, paired_mono (fun _ _ => R.mono sF) (paired_cut rp4 lo hi)⟩
/-! lengths, texts -/
theorem vl_lenH {X : Ar α} {n : Nat} [hn : ArN X n] : VLc (rLen K) (arOne (rTh X)) rInt (fun _ => some (n : Int)) := fun F H O xs a c W ⟨v, e, p, vs, ev, hp, rp⟩ hf Q q => by
  cases hf
  exact ⟨p, vs, by rw [e, ev], .inr (SqT.of (W.sub _ _ hp)), q _ F H (SameR _) W (by show V.int _ = V.int _; rw [hn.len _ _ _ rp])⟩
abbrev rLenStr : List V → Hp → VK → Prop := fun xs H Q => ∃ z, xs = [.str z] ∧ z.length ≤ sizeLine ∧ Q (.int z.length) H
def lenS (z : Str) : Option Int := if z.length ≤ sizeLine then some (z.length : Int) else none
theorem vl_lenS : VLc rLenStr (arOne rStr) rInt lenS := fun F H O xs a c W ⟨v, e, ev⟩ hf Q q => by
  unfold lenS at hf; split at hf
  · rename_i h; cases hf; exact ⟨a, by rw [e, ev], h, q _ F H (SameR _) W rfl⟩
  · cases hf
def addS (x y : Str) : Option Str := if x.length + y.length ≤ sizeLine then some (x ++ y) else none
theorem vl_addS : VL2 (fun x y H Q => ∃ i j, x = .str i ∧ y = .str j ∧ i.length + j.length ≤ sizeLine ∧ Q (.str (i ++ j)) H) rStr rStr rStr addS := fun F H O x y a b c W hx hy hf Q q => by
  unfold addS at hf; split at hf
  · rename_i h; cases hf; exact ⟨a, b, hx, hy, h, q _ F H (SameR _) W rfl⟩
  · cases hf
/-! isinstance -/
theorem kit_bb {a b : String} {r : Bool} (h : kitB a b = some r) : PySem.W.kitOne K (.type a) (.type b) = some r := h
theorem isi_int {n : String} {bb : Bool} (h : kitB "int" n = some bb := by decide +kernel) : ∀ F H v x, Same F H → rInt.r F v x → ∃ t, TyX K H v (.type t) ∧ PySem.W.kitOne K (.type t) (.type n) = some bb := fun F H v x s r => ⟨"int", by rw [show v = .int x from r]; exact .base (.int _), kit_bb h⟩
theorem isi_bool {n : String} {bb : Bool} (h : kitB "bool" n = some bb := by decide +kernel) : ∀ F H v x, Same F H → rBool.r F v x → ∃ t, TyX K H v (.type t) ∧ PySem.W.kitOne K (.type t) (.type n) = some bb := fun F H v x s r => ⟨"bool", by rw [show v = .bl x from r]; exact .base (.bl _), kit_bb h⟩
theorem isi_str {n : String} {bb : Bool} (h : kitB "str" n = some bb := by decide +kernel) : ∀ F H v x, Same F H → rStr.r F v x → ∃ t, TyX K H v (.type t) ∧ PySem.W.kitOne K (.type t) (.type n) = some bb := fun F H v x s r => ⟨"str", by rw [show v = .str x from r]; exact .base (.str _), kit_bb h⟩
theorem isi_tuple {X : Ar α} {n : String} {bb : Bool} (h : kitB "tuple" n = some bb := by decide +kernel) : ∀ F H v x, Same F H → (rTh X).r F v x → ∃ t, TyX K H v (.type t) ∧ PySem.W.kitOne K (.type t) (.type n) = some bb := fun F H v x s ⟨p, vs, e, hp, _⟩ => ⟨"tuple", by rw [e]; exact .base (.tup (s _ _ hp)), kit_bb h⟩
theorem isi_tupleT {n : String} {bb : Bool} (h : kitB "tuple" n = some bb := by decide +kernel) : ∀ F H v x, Same F H → (rTup R).r F v x → ∃ t, TyX K H v (.type t) ∧ PySem.W.kitOne K (.type t) (.type n) = some bb := fun F H v x s ⟨p, vs, e, hp, _⟩ => ⟨"tuple", by rw [e]; exact .base (.tup (s _ _ hp)), kit_bb h⟩
theorem isi_list {n : String} {bb : Bool} (h : kitB "list" n = some bb := by decide +kernel) : ∀ F H v x, Same F H → (rLst R).r F v x → ∃ t, TyX K H v (.type t) ∧ PySem.W.kitOne K (.type t) (.type n) = some bb := fun F H v x s ⟨p, vs, e, hp, _⟩ => ⟨"list", by rw [e]; exact .base (.lst (s _ _ hp)), kit_bb h⟩
/-! chains of two comparisons -/
variable {r r' : R2} {f : α → β → Option Bool} {g : β → γ → Option Bool} {m' : M S β} {m'' : M S γ}
theorem ev_chain (hr : VL2 r R R' rBool f) (hr' : VL2 r' R' U rBool g) (ha : Ev ta σ F A R m) (hb : Ev tb σ F A R' m') (hc : Ev tc σ F A U m'') :
    Ev (tChain r r' ta tb tc) σ F A rBool (bnd m fun a => bnd m' fun b => bnd (lft (f a b)) fun d => bif d then (bnd m'' fun c => lft (g b c)) else ret false) := fun s b s' hm F1 H c O sm ho W Q q => by
  obtain ⟨a, s1, h1, hm⟩ := bnd_some hm
  obtain ⟨b1, s2, h2, hm⟩ := bnd_some hm
  obtain ⟨d, s3, h3, hm⟩ := bnd_some hm
  obtain ⟨h3a, e3⟩ := lft_some h3
  subst e3
  refine ha s a s1 h1 F1 H c O sm ho W _ fun x F2 H2 c2 sm2 o2 W2 r2 => ?_
  refine hb s1 b1 _ h2 F2 H2 c2 O (sm.trans sm2) o2 W2 _ fun y F3 H3 c3 sm3 o3 W3 r3 => ?_
  refine hr F3 H3 _ x y a b1 d W3 (R.mono sm3 r2) r3 h3a _ fun z F4 H4 sm4 W4 r4 => ⟨d, r4, ?_⟩
  cases d with
  | true =>
    simp only [cond_true] at hm
    obtain ⟨c1, s4, h4, hm⟩ := bnd_some hm
    obtain ⟨h5, rfl⟩ := lft_some hm
    refine iteT (hc s3 c1 _ h4 F4 H4 c3 O (((sm.trans sm2).trans sm3).trans sm4) (A.mono sm4 o3) W4 _ fun w F5 H5 c5 sm5 o5 W5 r5 => ?_)
    exact hr' F5 H5 _ y w b1 c1 b W5 (R'.mono (sm4.trans sm5) r3) r5 h5 Q fun v F6 H6 sm6 W6 r6 => q v F6 H6 c5 ((((sm2.trans sm3).trans sm4).trans sm5).trans sm6) (A.mono sm6 o5) W6 r6
  | false =>
    obtain ⟨rfl, rfl⟩ := ret_some hm
    exact iteF (q _ F4 H4 c3 ((sm2.trans sm3).trans sm4) (A.mono sm4 o3) W4 rfl)
end
section
variable {X : Cx} {K : PySem.W.Frag}
theorem pget_list : PGet X (rIxL X.K) := by
  intro pins s σ H x y v u Q I rx ry h
  obtain ⟨p, xs, i, z, rfl, rfl, hq, he, q⟩ := h
  cases rx
  obtain ⟨t, rfl⟩ := ry
  obtain ⟨its, r, pl, hz⟩ := I.list hq
  obtain ⟨j, h1, h2, h3, h4, h5⟩ := atI_get he
  obtain ⟨w, ew, rw'⟩ := r.get h2
  have hl := r.length
  have hn := line63
  have fin : EP X pins σ Q w s := ⟨z, H, I, rw', q⟩
  by_cases h0 : 0 ≤ i
  · have hj : i.toNat = j := by
      rw [seqIndex_of h0 h5] at h1
      exact Option.some.inj h1
    exact wpAny_getItem_list pl.isList h0 (by omega) (by rw [hj]; simpa using ew) fin
  · have hj : (i + (its.toArray.size : Int)).toNat = j := by
      rw [seqIndex_neg (by omega) h4] at h1
      rw [List.size_toArray, ← hl]
      exact Option.some.inj h1
    exact wpAny_getItem_list_neg pl.isList (by omega) (by rw [List.size_toArray] <;> omega) (by omega) (by rw [hj]; simpa using ew) fin
theorem kpget_list (e : X.K = K := by rfl) : PGet X (rIxL K) := by subst e; exact pget_list
theorem kpe_bm {o e : Expr} {es : List Expr} {to : TE} {t : TA} {name : Str} {apos cpos : Pos} {TT id : String} {r : V → List V → Hp → VK → Prop} (pa : PlainAttrs TT) (slot : Slot TT name id) (hty : typeOf (.builtin id) = pure (.type "method_descriptor")) (hm : MtM X id r) (ho : PE X o to) (ha : PA X (e :: es) t) (eK : X.K = K := by rfl)
    (hbase : attributeBase o name X.env (eval o X.env) = eval o X.env := by rfl)
    (hfew : ((backTo cpos (starEach (e :: es) X.env)).all (fun x => !x.1) && (backToKw cpos (keywordEach [] X.env)).all (fun x => x.1.isSome)
      && decide ((e :: es).length + ([] : List Keyword).length + (if ([] : List Keyword).isEmpty then 0 else 1) < 30)) = true := by rfl)
    (hline : (apos.endLine == cpos.line) = true := by rfl) (hs : starEach (e :: es) X.env = (false, eval e X.env) :: starEach es X.env := by rfl) (hplain : (backTo cpos (starEach es X.env)).any (·.1) = false := by rfl) :
    PE X (.Call (.Attribute o name apos) (e :: es) [] cpos) (tBM K TT r to t) := by subst eK; exact pe_bm pa slot hty hm ho ha hbase hfew hline hs hplain
end
end T

/-! T8: loops and joins where an owned thing is bound anew; unlike rows cut; lists unpacked; index; Pouring. -/
namespace T
open PySem L2
section
variable {S S0 S1 T' ι α β γ Z Ω ρ : Type} {R : Rl α} {R' : Rl β} {U : Rl γ} {K : PySem.W.Frag} {σ : L2.St} {F F' : Hp} {te ta tb : TE} {tt : TT} {t e u w : TS} {P : Post Ω} {v : V} {j : Nat}
def pNxI (A : ι → Ow S) (Sl : Z → ι → Hp → L2.St → Prop) : Post (Z × S) where
  p := fun w F O D => ∀ i F' H' c' σ', Same F F' → (A i).o F' w.2 c' → Wd F' H' (c' ++ O) → Sl w.1 i F' σ' → D.nx σ' H'
  mono := fun s h i F' H' c' σ' s' => h i F' H' c' σ' (s.trans s')
def pFlI (A : ι → Ow S) (Sl : Z → ι → Hp → L2.St → Prop) (Y : Ow S0) (R : Rl β) : Post (Fl (Z × S) (β × S0)) where
  p := fun w F O D => match w with
    | .nx q => (pNxI A Sl).p q F O D
    | .rt b => (pRt Y R).p b F O D
  mono := fun {w F F' O D} s h => by
    cases w with
    | nx q => exact (pNxI A Sl).mono s h
    | rt b => exact (pRt Y R).mono s h
theorem b_nxI {A' : Ow T'} {A : ι → Ow S} {π : T' → S} {Sl : Z → ι → Hp → L2.St → Prop} {z : Z} (i : ι) (pr : Pr A' (A i) π) (h : ∀ F', Same F F' → Sl z i F' σ) : B tNext σ F A' (pNxI A Sl) (fun s => some (z, π s)) := fun s w hm F1 H c O sm ho W D q => by
  cases hm
  obtain ⟨c3, o3, W3⟩ := Wd.pr pr ho W
  exact q i F1 H c3 σ (SameR _) o3 W3 (h F1 sm)
theorem b_nxFI {A' : Ow T'} {A : ι → Ow S} {Y : Ow S0} {π : T' → S} {Sl : Z → ι → Hp → L2.St → Prop} {z : Z} {V' : Rl β} (i : ι) (pr : Pr A' (A i) π) (h : ∀ F', Same F F' → Sl z i F' σ) : B tNext σ F A' (pFlI A Sl Y V') (fun s => some (.nx (z, π s))) := fun s w hm F1 H c O sm ho W D q => by
  cases hm
  obtain ⟨c3, o3, W3⟩ := Wd.pr pr ho W
  exact q i F1 H c3 σ (SameR _) o3 W3 (h F1 sm)
theorem b_rtFI {A' : Ow T'} {A : ι → Ow S} {Y : Ow S0} {Sl : Z → ι → Hp → L2.St → Prop} {V' : Rl β} {f : T' → Option (β × S0)} (h : B u σ F A' (pRt Y V') f) : B u σ F A' (pFlI A Sl Y V') (rtF f) := fun s w hm F1 H c O sm ho W D q => by
  unfold rtF at hm
  cases e1 : f s with
  | none => rw [e1] at hm; cases hm
  | some r => rw [e1] at hm; cases hm; exact h s r e1 F1 H c O sm ho W D q
theorem b_ifJI {A : ι → Ow S} {A0 : Ow S} {mb : M S Bool} {Sl : Z → ι → Hp → L2.St → Prop} {f g : S → Option (Z × S)} {h : Z → S → Option Ω} (hc : EvT tt σ F A0 mb) (ht : B t σ F A0 (pNxI A Sl) f) (he : B e σ F A0 (pNxI A Sl) g) (k : ∀ z i F' σ', Same F F' → Sl z i F' σ' → B w σ' F' (A i) P (h z)) :
    B (Evl.tCut (tIfS tt t e) w) σ F A0 P (bnd (bnd mb fun b => bif b then f else g) h) := fun s r hm F1 H c O sm ho W D q => by
  obtain ⟨z, s2, e0, hm⟩ := bnd_some hm
  obtain ⟨b, s1, h1, h2⟩ := bnd_some e0
  refine ⟨fun σ' H' => ∃ i F' c', Same F1 F' ∧ (A i).o F' s2 c' ∧ Wd F' H' (c' ++ O) ∧ Sl z i F' σ', ?_, fun σ' H' ⟨i, F', c', s', o', W', sl⟩ => k z i F' σ' (sm.trans s') sl s2 r hm F' H' c' O (SameR _) o' W' D (P.mono s' q)⟩
  refine hc s b s1 h1 F1 H c O sm ho W _ fun F2 H2 c2 sm2 o2 W2 => ?_
  cases b with
  | true => exact iteT (ht s1 (z, s2) h2 F2 H2 c2 O (sm.trans sm2) o2 W2 _ fun i F3 H3 c3 σ3 s3 o3 W3 sl => ⟨i, F3, c3, sm2.trans s3, o3, W3, sl⟩)
  | false => exact iteF (he s1 (z, s2) h2 F2 H2 c2 O (sm.trans sm2) o2 W2 _ fun i F3 H3 c3 σ3 s3 o3 W3 sl => ⟨i, F3, c3, sm2.trans s3, o3, W3, sl⟩)
theorem b_forI {A : ι → Ow S} (i0 : ι) {wi : TI} {g : TG} {f : Z → α → M S Z} {z0 : Z} {Sl : Z → ι → Hp → L2.St → Prop} {h : Z → S → Option Ω} {ml : M S (List α)} (hi : EvI wi σ F (A i0) R ml) (h0 : ∀ F', Same F F' → Sl z0 i0 F' σ)
    (hb : ∀ z i x v F' σ', Same F F' → Sl z i F' σ' → R.r F' v x → B (tGo g v t) σ' F' (A i) (pNxI A Sl) (f z x)) (k : ∀ z i F' σ', Same F F' → Sl z i F' σ' → B w σ' F' (A i) P (h z))
    (hS : ∀ z i F F' σ', Same F F' → Sl z i F σ' → Sl z i F' σ') : B (tSeq (tFor wi g t) w) σ F (A i0) P (bnd ml fun xs => bnd (fd f z0 xs) h) := fun s r hm F1 H c O sm ho W D q => by
  obtain ⟨xs, s1, h1, hm⟩ := bnd_some hm
  obtain ⟨zf, sf, h2, hm⟩ := bnd_some hm
  refine hi s xs s1 h1 F1 H c O sm ho W _ fun J F2 H2 c2 sm2 o2 W2 ⟨G, Y, wk, hG, hY⟩ => ?_
  refine for_it wk (fun n σ3 H3 => ∃ i z s3 F3 c3, Same F2 F3 ∧ (A i).o F3 s3 c3 ∧ Wd F3 H3 (c3 ++ O) ∧ Sl z i F3 σ3 ∧ fd f z (xs.drop n) s3 = some (zf, sf)) ?_ ?_ ?_ ?_
  · exact ⟨i0, z0, s1, F2, c2, SameR _, o2, W2, h0 F2 (sm.trans sm2), h2⟩
  · rintro n σ3 H3 _ ⟨i, z, s3, F3, c3, sm3, o3, W3, _⟩
    exact hG F3 H3 sm3 W3.sub
  · rintro n x σ3 H3 H4 hlt ⟨i, z, s3, F3, c3, sm3, o3, W3, sl, hfd⟩ y
    obtain ⟨F4, sm4, W4, a, ha, ra⟩ := hY n H3 x H4 hlt y F3 _ sm3 W3
    obtain ⟨z', s4, e1, e2⟩ := fd_cons ha hfd
    exact hb z i a x F4 σ3 ((sm.trans sm2).trans (sm3.trans sm4)) (hS _ _ _ _ _ sm4 sl) ra s3 (z', s4) e1 F4 H4 c3 O (SameR _) ((A i).mono sm4 o3) W4 _ fun i5 F5 H5 c5 σ5 s5 o5 W5 sl5 => ⟨i5, z', s4, F5, c5, sm3.trans (sm4.trans s5), o5, W5, sl5, e2⟩
  · rintro σ3 H3 ⟨i, z, s3, F3, c3, sm3, o3, W3, sl, hfd⟩
    rw [List.drop_of_length_le (Nat.le_refl _)] at hfd
    cases hfd
    exact k _ i F3 σ3 ((sm.trans sm2).trans sm3) sl _ r hm F3 H3 c3 O (SameR _) o3 W3 D (P.mono (sm2.trans sm3) q)
/-- an owned name is bound to a new owned thing: its old one goes -/
def swp {S S' T Ω : Type} (π : S → S') (k : S' × T → Option Ω) (t : T) : S → Option Ω := fun s => k (π s, t)
/-! unlike rows, cut -/
variable {A : Ow S}
structure Cut {α β : Type} (X : Ar α) (lo hi : Option Int) (Y : Ar β) (f : α → β) : Prop where
  cut : ∀ {F : Hp} {vs : List V} {x : α}, X.r F vs x → Y.r F (cutV vs lo hi) (f x) ∧ ¬ (HT.sIx vs.length 0 lo = 0 ∧ HT.sIx vs.length vs.length hi = vs.length)
theorem ev_slH {X : Ar α} {Y : Ar β} {f : α → β} {lo hi : Option Int} {tl th : TO} {m : M S α} (hc : Cut X lo hi Y f) (h : Ev te σ F A (rTh X) m) (hl : ∀ {F}, EvP tl σ F A (ret lo)) (hh : ∀ {F}, EvP th σ F A (ret hi)) : Ev (tSl (rSlA K) te tl th) σ F A (rTh Y) (bnd m fun x => ret (f x)) := fun s b s' hm F1 H c O sm ho W Q q => by
  obtain ⟨x, s1, h1, hm⟩ := bnd_some hm
  obtain ⟨rfl, rfl⟩ := ret_some hm
  refine h s x _ h1 F1 H c O sm ho W _ fun v F2 H2 c2 sm2 o2 W2 ⟨p, vs, e, hp, rp⟩ => ?_
  refine hl (F := F2) _ lo _ rfl F2 H2 c2 O (SameR _) o2 W2 _ fun F3 H3 c3 sm3 o3 W3 => ?_
  refine hh (F := F3) _ hi _ rfl F3 H3 c3 O (SameR _) o3 W3 _ fun F4 H4 c4 sm4 o4 W4 => ?_
  obtain ⟨r1, nw⟩ := hc.cut rp
  have sF := fun l nl => W4.sameF (p := l) (o := .tup (cutV vs lo hi)) nl
  exact ⟨p, vs, e, SqT.of (W4.sub _ _ (sm4 _ _ (sm3 _ _ hp))), fun hw => (nw hw).elim, fun _ l nl => q _ _ _ c4 (((sm2.trans sm3).trans sm4).trans (sF l nl)) (A.mono (sF l nl) o4) (W4.newF nl) ⟨l, _, rfl, upd_same, Y.mono ((sm3.trans sm4).trans (sF l nl)) r1⟩⟩
/-! a list of so many, unpacked -/
theorem kpg_unl {X : Cx} {es : List Expr} {k : Nat} {t : TGs} {n : Nat} {pos : Pos} (hc : X.calm = true) (h : PGs X es t) (e : X.K = K := by rfl)
    (hn : (assignEach es X.env).length = n := by rfl) (hst : (assignEach es X.env).findIdx? (·.1) = none := by rfl) : PG X (.Tuple es k pos) (gUnl K n t) := by subst e; exact pg_unl hc h hn hst
variable {R3 : Rl γ} {δ ε : Type} {R4 : Rl δ} {R5 : Rl ε}
theorem go_l2 {i j : Nat} {w : L2.St} {x : α × β} (h : (rLh (arC R (arOne R'))).r F v x) : Go (gUnl K 2 (gCons (gName i) (gCons (gName j) gNil))) v w F (fun σ2 => ∃ v1 v2, R.r F v1 x.1 ∧ R'.r F v2 x.2 ∧ σ2 = (w.set i (some v1)).set j (some v2)) := fun F1 H O sm W Q q => by
  obtain ⟨p, vs, rfl, hp, v1, _, rfl, r1, v2, rfl, r2⟩ := h
  exact ⟨p, _, rfl, SqL.of (W.sub _ _ (sm _ _ hp)), rfl, v1, _, rfl, v2, _, rfl, rfl, q _ ⟨v1, v2, r1, r2, rfl⟩⟩
theorem go_l3 {i j k : Nat} {w : L2.St} {x : α × β × γ} (h : (rLh (arC R (arC R' (arOne R3)))).r F v x) : Go (gUnl K 3 (gCons (gName i) (gCons (gName j) (gCons (gName k) gNil)))) v w F
    (fun σ2 => ∃ v1 v2 v3, R.r F v1 x.1 ∧ R'.r F v2 x.2.1 ∧ R3.r F v3 x.2.2 ∧ σ2 = ((w.set i (some v1)).set j (some v2)).set k (some v3)) := fun F1 H O sm W Q q => by
  obtain ⟨p, vs, rfl, hp, v1, _, rfl, r1, v2, _, rfl, r2, v3, rfl, r3⟩ := h
  exact ⟨p, _, rfl, SqL.of (W.sub _ _ (sm _ _ hp)), rfl, v1, _, rfl, v2, _, rfl, v3, _, rfl, rfl, q _ ⟨v1, v2, v3, r1, r2, r3, rfl⟩⟩
/-! xs.index(y), xs.count(y) -/
def idxO {α : Type} [DecidableEq α] (xs : List α) (y : α) : Option Int := (xs.findIdx? fun x => decide (x = y)).map fun (n : Nat) => (n : Int)
theorem mt_indexM {X : Cx} (e : X.K = K := by rfl) : MtR X "list.index" (rIndex K) := by subst e; exact mt_index
theorem kpe_bmR {X : Cx} {o e : Expr} {es : List Expr} {to : TE} {t : TA} {name : Str} {apos cpos : Pos} {TT id : String} {r : V → List V → Hp → VK → Prop} (pa : PlainAttrs TT) (slot : Slot TT name id) (hty : typeOf (.builtin id) = pure (.type "method_descriptor")) (hm : MtR X id r) (ho : PE X o to) (ha : PA X (e :: es) t) (eK : X.K = K := by rfl)
    (hbase : attributeBase o name X.env (eval o X.env) = eval o X.env := by rfl)
    (hfew : ((backTo cpos (starEach (e :: es) X.env)).all (fun x => !x.1) && (backToKw cpos (keywordEach [] X.env)).all (fun x => x.1.isSome)
      && decide ((e :: es).length + ([] : List Keyword).length + (if ([] : List Keyword).isEmpty then 0 else 1) < 30)) = true := by rfl)
    (hline : (apos.endLine == cpos.line) = true := by rfl) (hs : starEach (e :: es) X.env = (false, eval e X.env) :: starEach es X.env := by rfl) (hplain : (backTo cpos (starEach es X.env)).any (·.1) = false := by rfl) :
    PE X (.Call (.Attribute o name apos) (e :: es) [] cpos) (tBM K TT r to t) := by subst eK; exact pe_bm pa slot hty hm ho ha hbase hfew hline hs hplain
theorem vs_of {f : α → V} (hR : ∀ F v x, R.r F v x → v = f x) {vs : List V} {xs : List α} (rp : Paired (R.r F) vs xs) : vs = xs.map f := by
  induction rp with
  | nil => rfl
  | cons r t ih => rw [hR _ _ _ r, ih]; rfl
theorem ev_index [DecidableEq α] {f : α → V} (hR : ∀ F v x, R.r F v x → v = f x) (hf : ∀ x, flatV (f x) = true) (he : ∀ a b, eqV (f a) (f b) = decide (a = b)) {mx : M S (List α)} {my : M S α} (h : Ev ta σ F A (rLst R) mx) (h' : Ev tb σ F A R my) :
    Ev (tBM K "list" (rIndex K) ta (tCons tb tNil)) σ F A rInt (bnd mx fun xs => bnd my fun y => lft (idxO xs y)) := fun s b s' hm F1 H c O sm ho W Q q => by
  obtain ⟨xs, s1, h1, hm⟩ := bnd_some hm
  obtain ⟨y, s2, h2, hm⟩ := bnd_some hm
  obtain ⟨h3, rfl⟩ := lft_some hm
  refine h s xs s1 h1 F1 H c O sm ho W _ fun v F2 H2 c2 sm2 o2 W2 ⟨p, vs, e, hp, rp⟩ => ⟨by rw [e]; exact .inl ⟨rfl, vs, SqL.of (W2.sub _ _ hp)⟩, ?_⟩
  refine h' s1 y _ h2 F2 H2 c2 O (sm.trans sm2) o2 W2 _ fun u F3 H3 c3 sm3 o3 W3 r3 => ?_
  have e1 : vs = xs.map f := vs_of hR rp
  unfold idxO at h3
  cases ej : xs.findIdx? (fun x => decide (x = y)) with
  | none => rw [ej] at h3; cases h3
  | some n =>
    rw [ej] at h3; cases h3
    obtain ⟨hn, hyes, hno⟩ := List.findIdx?_eq_some_iff_getElem.mp ej
    refine ⟨p, vs, u, n, f xs[n], e, rfl, SqL.of (W3.sub _ _ (sm3 _ _ hp)), by rw [hR _ _ _ r3]; exact hf y, by rw [e1, List.all_map]; exact List.all_eq_true.mpr fun z _ => hf z, ?_, ?_, fun k z' hk hz => ?_, q _ F3 H3 c3 (sm2.trans sm3) o3 W3 rfl⟩
    · rw [e1]; simp [hn]
    · rw [hR _ _ _ r3, he]; exact hyes
    · rw [e1] at hz
      have hk2 : k < xs.length := by omega
      simp [hk2] at hz
      rw [← hz, hR _ _ _ r3, he]
      simpa using hno k hk
theorem eqV_str (a b : Str) : eqV (.str a) (.str b) = decide (a = b) := by
  show (a == b) = decide (a = b)
  by_cases h : a = b <;> simp [h]
theorem eqV_bl (a b : Bool) : eqV (.bl a) (.bl b) = decide (a = b) := by cases a <;> cases b <;> rfl
theorem ev_indexS {mx : M S (List Str)} {my : M S Str} (h : Ev ta σ F A (rLst rStr) mx) (h' : Ev tb σ F A rStr my) : Ev (tBM K "list" (rIndex K) ta (tCons tb tNil)) σ F A rInt (bnd mx fun xs => bnd my fun y => lft (idxO xs y)) :=
  ev_index (f := V.str) (fun _ _ _ h => h) (fun _ => rfl) eqV_str h h'
theorem ev_indexI {mx : M S (List Int)} {my : M S Int} (h : Ev ta σ F A (rLst rInt) mx) (h' : Ev tb σ F A rInt my) : Ev (tBM K "list" (rIndex K) ta (tCons tb tNil)) σ F A rInt (bnd mx fun xs => bnd my fun y => lft (idxO xs y)) :=
  ev_index (f := V.int) (fun _ _ _ h => h) (fun _ => rfl) (fun a b => rfl) h h'
theorem ev_indexB {mx : M S (List Bool)} {my : M S Bool} (h : Ev ta σ F A (rLst rBool) mx) (h' : Ev tb σ F A rBool my) : Ev (tBM K "list" (rIndex K) ta (tCons tb tNil)) σ F A rInt (bnd mx fun xs => bnd my fun y => lft (idxO xs y)) :=
  ev_index (f := V.bl) (fun _ _ _ h => h) (fun _ => rfl) eqV_bl h h'
end
/-! Pouring -/
abbrev Pour := List Int × Int
def oPour (C : Addr) (v : V) : Ow Pour where
  o := fun F s c => ∃ p dx l vs, v = .ref p ∧ c = [(p, .ins C dx [("later", .ref l), ("ground", .int s.2)]), (l, .lst vs)] ∧ Paired (rInt.r F) vs s.1
  mono := fun s ⟨p, dx, l, vs, e, h, r⟩ => ⟨p, dx, l, vs, e, h, paired_mono (fun _ _ => rInt.mono s) r⟩
structure PourT (K : PySem.W.Frag) (C : Addr) : Prop where
  cl : Cls K C
  nL : NoAttr K C "later"
  nG : NoAttr K C "ground"
section
variable {S α β Ω : Type} {K : PySem.W.Frag} {C : Addr} {σ : L2.St} {F : Hp} {A : Ow S} {v : V} {j : Nat} {g : S → Pour} {p : S → Pour → S} {te : TE}
theorem emb_pour {F H : Hp} {s : S} {c O : Ch} (e : Emb A (oPour C v) g p) (ho : A.o F s c) (W : Wd F H (c ++ O)) : ∃ a dx l vs c2, v = .ref a ∧ Paired (rInt.r F) vs (g s).1 ∧ Wd F H ((a, .ins C dx [("later", .ref l), ("ground", .int (g s).2)]) :: (l, .lst vs) :: (c2 ++ O)) := by
  obtain ⟨c1, c2, pm, ⟨a, dx, l, vs, e1, rfl, rp⟩, k⟩ := e.split ho
  exact ⟨a, dx, l, vs, c2, e1, rp, W.perm (pm.append_right O)⟩
/-- pouring.ground -/
theorem ev_pground (T : PourT K C) (hv : σ[j]? = some (some v)) (e : Emb A (oPour C v) g p) : Ev (tFld K (tVar j) "ground") σ F A rInt (gtL g fun s => some s.2) := fun s b s' hm F1 H c O sm ho W Q q => by
  obtain ⟨h2, rfl⟩ := gtL_some hm
  cases h2
  obtain ⟨a, dx, l, vs, c2, rfl, rp, W2⟩ := emb_pour e ho W
  exact ⟨_, hv, a, C, dx, _, _, rfl, W2.hd, T.cl, T.nG, rfl, q _ F1 H c (SameR _) ho W rfl⟩
/-- tuple(pouring.later) -/
theorem ev_plater (T : PourT K C) (hv : σ[j]? = some (some v)) (e : Emb A (oPour C v) g p) : Ev (tCB (rTupleOf K) (tCons (tFld K (tVar j) "later") tNil)) σ F A (rTup rInt) (gtL g fun s => some s.1) := fun s b s' hm F1 H c O sm ho W Q q => by
  obtain ⟨h2, rfl⟩ := gtL_some hm
  cases h2
  obtain ⟨a, dx, l, vs, c2, rfl, rp, W2⟩ := emb_pour e ho W
  refine ⟨_, hv, a, C, dx, _, _, rfl, W2.hd, T.cl, T.nL, rfl, l, vs, rfl, .inl ⟨SqL.of W2.tl.hd, fun q' nq => ?_⟩⟩
  exact q _ _ _ c (W.sameF nq) (A.mono (W.sameF nq) ho) (W.newF nq) ⟨q', vs, rfl, upd_same, paired_mono (fun _ _ => rInt.mono (W.sameF nq)) rp⟩
/-- Pouring(n): __init__'s promise -/
def spPourInit (C : Addr) : Sp := fun vs H Q _ => ∃ (p dx : Addr) (F : Hp) (O : Ch) (n : Int) (b : List Int), vs = [.ref p, .int n] ∧ Wd F H ((p, .ins C dx []) :: O) ∧ repL [0] n = some b ∧
  ∀ (H' : Hp) (cb : Ch), (oPour C (.ref p)).o F (b, 0) cb → Wd F H' (cb ++ O) → Q .non H'
def pourNew (n : Int) : Option Pour := (repL [0] n).map fun b => (b, 0)
theorem eo_pour {E : XK} {m : M S Int} (h : Ev te σ F A rInt m) : EvO (tMake C (spPourInit C) [] E (tCons te tNil)) σ F A (oPour C) (bnd m fun n => lft (pourNew n)) := fun s b s' hm F1 H c O sm ho W Q q => by
  obtain ⟨n, s1, h1, hm⟩ := bnd_some hm
  obtain ⟨h2, rfl⟩ := lft_some hm
  unfold pourNew at h2
  cases e1 : repL [(0 : Int)] n with
  | none => rw [e1] at h2; cases h2
  | some l =>
    rw [e1] at h2; cases h2
    refine h s n _ h1 F1 H c O sm ho W _ fun v F2 H2 c2 sm2 o2 W2 r2 => fun x dx nx ndx ne => ?_
    have W3 : Wd F2 (upd (upd H2 dx (.own x)) x (.ins C dx [])) ((x, .ins C dx []) :: (c2 ++ O)) := (W2.junk ndx).newO (by rw [upd_ne (Ne.symm ne)]; exact nx)
    exact ⟨x, dx, F2, _, n, l, by rw [show v = .int n from r2]; rfl, W3, e1, fun H' cb ob W' => ⟨rfl, q _ F2 H' c2 cb sm2 o2 ob W'⟩⟩
def mPourGive (t : Option Int) (a : Int) : M Pour Unit := fun s => match t with
  | none => some ((), (s.1, s.2 + a))
  | some k => (atI s.1 k).bind fun y => (setI s.1 k (y + a)).map fun l => ((), (l, s.2))
abbrev spPourGive (C : Addr) : Sp := spS (fun v => arC (rV v) (arC (rOpt rInt) (arOne rInt))) (oPour C) rNone (fun x => mPourGive x.2.1 x.2.2)
/-- a method of an owned object whose head is an instance -/
structure InsHd {T : Type} (Bf : V → Ow T) (C : Addr) (m : Str) : Prop where
  hd : ∀ {F : Hp} {v : V} {s : T} {c : Ch}, (Bf v).o F s c → ∃ p dx fs rest, v = .ref p ∧ c = (p, .ins C dx fs) :: rest ∧ fs.lookup m = none
theorem hd_pour (m : Str) (h1 : ("later" : Str) ≠ m := by decide +kernel) (h2 : ("ground" : Str) ≠ m := by decide +kernel) : InsHd (oPour C) C m := ⟨fun ⟨p, dx, l, vs, e, h, _⟩ => ⟨p, dx, _, _, e, h, by
  rw [List.lookup_cons, List.lookup_cons]
  have a1 : (m == "later") = false := by rw [beq_eq_false_iff_ne]; exact fun e => h1 e.symm
  have a2 : (m == "ground") = false := by rw [beq_eq_false_iff_ne]; exact fun e => h2 e.symm
  rw [a1, a2]; rfl⟩⟩
theorem ev_methS {T γ : Type} {mn : Str} {X : Ar α} {Bf : V → Ow T} {U : Rl γ} {f : α → M T γ} {E : XK} {g : S → T} {p : S → T → S} {ar : TA} {ma : M S α} (hh : InsHd Bf C mn) (hv : σ[j]? = some (some v)) (e : Emb A (Bf v) g p) (h : EvA ar σ F A X ma) :
    Ev (tMeth C mn (spS (fun v => arC (rV v) X) Bf U (fun x => f x.2)) [] E (tVar j) ar) σ F A U (bnd ma fun x => zm g p (f x)) := fun s b s' hm F1 H c O sm ho W Q q => by
  obtain ⟨xs, s1, h1, hm⟩ := bnd_some hm
  obtain ⟨t, h2, rfl⟩ := zm_some hm
  obtain ⟨c3, c4, pm, ob, k⟩ := e.split ho
  obtain ⟨p0, dx, fs, rest, rfl, rfl, hl⟩ := hh.hd ob
  have W0 : Wd F1 H ((p0, .ins C dx fs) :: (rest ++ (c4 ++ O))) := by
    refine W.perm ((pm.append_right O).trans ?_)
    simp
  refine ⟨_, hv, p0, dx, fs, rfl, W0.hd, hl, ?_⟩
  refine h s _ _ h1 F1 H c O sm ho W _ fun vs F2 H2 c2 s2 o2 W2 r2 => ?_
  obtain ⟨c3', c4', pm', ob', k'⟩ := e.split o2
  rw [List.append_nil]
  refine ⟨.ref p0, F2, c4' ++ O, c3', ((), xs), g s1, b, t, ⟨_, _, rfl, rfl, r2⟩, ob', W2.perm ?_, h2, fun v F3 H3 c5 s3 o3 W3 r3 => ?_⟩
  · rw [← List.append_assoc]; exact pm'.append_right O
  · obtain ⟨c', oc, pm2⟩ := k' F3 t c5 s3 o3
    refine q v F3 H3 c' (s2.trans s3) oc (W3.perm ?_) r3
    rw [← List.append_assoc]; exact (pm2.append_right O).symm
end
end T

/-! T9: names bound anew to owned things; known classes and methods. -/
namespace T
open PySem L2
section
variable {S S' T' U' α β Ω : Type} {σ : L2.St} {F : Hp} {te : TE} {u : TS} {P : Post Ω}
structure Rpl (A A' : Ow S) (B' : Ow T') (p : S → T' → S) : Prop where
  rp : ∀ {F F' : Hp} {s : S} {t : T'} {c cb : Ch}, Same F F' → A.o F s c → B'.o F' t cb → ∃ c' r, A'.o F' (p s t) c' ∧ (cb ++ c).Perm (c' ++ r)
theorem rpl_0 {A : Ow T'} {B' : Ow T'} : Rpl A B' B' (fun _ t => t) := ⟨fun {F F' s t c cb} sm ha hb => ⟨cb, c, hb, List.Perm.refl _⟩⟩
theorem rpl_r {A : Ow S} {B : Ow T'} {B' : Ow T'} : Rpl (star A B) (star A B') B' (fun s t => (s.1, t)) := ⟨fun {F F' s t c cb} sm ⟨c1, c2, e, a, b⟩ hb => ⟨c1 ++ cb, c2, ⟨c1, cb, rfl, A.mono sm a, hb⟩, by
  rw [e, ← List.append_assoc]; exact List.perm_append_comm.append_right c2⟩⟩
theorem rpl_l {A A' : Ow S} {C : Ow U'} {B' : Ow T'} {p : S → T' → S} (h : Rpl A A' B' p) : Rpl (star A C) (star A' C) B' (fun s t => (p s.1 t, s.2)) := ⟨fun {F F' s t c cb} sm ⟨c1, c2, e, a, b⟩ hb => by
  obtain ⟨c', r, h1, pm⟩ := h.rp sm a hb
  refine ⟨c' ++ c2, r, ⟨c', c2, rfl, h1, C.mono sm b⟩, ?_⟩
  rw [e, ← List.append_assoc]
  refine (pm.append_right c2).trans ?_
  rw [List.append_assoc, List.append_assoc]
  exact List.perm_append_comm.append_left c'⟩
def rb {S T Ω : Type} (p : S → T → S) (f : S → Option Ω) (x : T) : S → Option Ω := fun s => f (p s x)
theorem b_rb {i : Nat} {A : Ow S} {A' : V → Ow S} {Bf : V → Ow T'} {p : S → T' → S} {m : M S T'} {f : S → Option Ω} (he : EvO te σ F A Bf m) (hr : ∀ v, Rpl A (A' v) (Bf v) p) (k : ∀ v F', Same F F' → B u (σ.set i (some v)) F' (A' v) P f) :
    B (tSeq (tAsg te (gName i)) u) σ F A P (bnd m (rb p f)) := fun s w hm F1 H c O sm ho W D q => by
  obtain ⟨x, s1, h1, hm⟩ := bnd_some hm
  refine he s x s1 h1 F1 H c O sm ho W _ fun v F2 H2 c2 cb s2 o2 ob W2 => ?_
  obtain ⟨c', r, h2, pm⟩ := (hr v).rp (SameR _) o2 ob
  refine k v F2 (sm.trans s2) (p s1 x) w hm F2 H2 c' O (SameR _) h2 ?_ D (P.mono s2 q)
  have W3 : Wd F2 H2 ((c' ++ r) ++ O) := W2.perm (by rw [← List.append_assoc]; exact pm.append_right O)
  exact W3.sublist (List.Sublist.append (List.sublist_append_left c' r) (List.Sublist.refl O))
end
/-- x + e, x owned -/
theorem eo_catO {S α : Type} {R : Rl α} {σ : L2.St} {F : Hp} {A : Ow S} {tb : TE} {v : V} {j : Nat} {g : S → List α} {p : S → List α → S} {m : M S (List α)} (hv : σ[j]? = some (some v)) (e : Emb A (oLst R v) g p) (hb : Ev tb σ F A (rLst R) m) :
    EvO (tOp rCat (tVar j) tb) σ F A (oLst R) (bnd m fun ys => gtL g fun xs => catL xs ys) := fun s b s' hm F1 H c O sm ho W Q q => by
  obtain ⟨ys, s1, h1, hm⟩ := bnd_some hm
  obtain ⟨h2, e2⟩ := gtL_some hm
  subst e2
  obtain ⟨rfl, hl⟩ := catL_some h2
  refine ⟨v, hv, hb s ys _ h1 F1 H c O sm ho W _ fun y F2 H2 c2 sm2 o2 W2 ⟨p2, ws, ey, hq, rq⟩ => ?_⟩
  obtain ⟨l, vs, c3, e1, rp, W3, k⟩ := emb_list e o2 W2
  refine ⟨l, p2, vs, ws, e1, ey, W3.hd, W2.sub _ _ hq, by rw [paired_len rp, paired_len rq]; exact Nat.le_of_lt (lim_le hl), fun l' nl => ?_⟩
  exact q _ F2 _ c2 [(l', .lst (vs ++ ws))] sm2 o2 ⟨l', _, rfl, rfl, paired_app rp rq⟩ (W2.newO nl)
/-! known classes and methods -/
structure KnC (P : Program) (w : World) (K : PySem.W.Frag) (mg : Str → Option Value) (base : Heap) (CX : CXT) (k : Nat) (x : Str) (C : Addr) (ps : List Str) (sp : Sp) : Prop where
  mgC : mg x = some (.ref C)
  ex : ∃ f fd, Mk K C f ∧ Binds K fd ps [] ∧ FnOk P w K mg base CX k f fd ps sp
structure KnM (P : Program) (w : World) (K : PySem.W.Frag) (mg : Str → Option Value) (base : Heap) (CX : CXT) (k : Nat) (m : Str) (C : Addr) (ps : List Str) (sp : Sp) : Prop where
  cl : Cls K C
  ex : ∃ f fd, Meth K C m f ∧ Binds K fd ps [] ∧ FnOk P w K mg base CX k f fd ps sp
section
variable {X : Cx} {k j : Nat} {x m : Str} {C : Addr} {ps : List Str} {sp : Sp} {p pos apos : Pos} {e o : Expr} {es : List Expr} {ta : TE} {t : TA}
theorem pe_knC (h : KnC X.prog X.w X.K X.mg X.base CX0 j x C ps sp) (hr : Room k X.A) (hj : j + 1 ≤ k) (hg : Gl X x) (ha : PA X (e :: es) t) (hdb : (x == ("__debug__" : Str)) = false := by decide)
    (he : starEach (e :: es) X.env = (false, eval e X.env) :: starEach es X.env := by rfl) (hpl : (backTo pos (starEach es X.env)).any (·.1) = false := by rfl) : PE X (.Call (.Name x p) (e :: es) [] pos) (tMake C sp [] E0 t) := by
  obtain ⟨f, fd, h1, h2, h3⟩ := h.ex
  exact pe_make h1 h3 (hr.mono hj) hg h.mgC h2 .nil pass0 ha hdb he hpl
theorem pe_knM {pl : Sem Bool} (ho : PE X o ta) (h : KnM X.prog X.w X.K X.mg X.base CX0 j m C ps sp) (hr : Room k X.A) (hj : j ≤ k) (ha : PA X (e :: es) t)
    (hst : starEach (e :: es) X.env = (false, eval e X.env) :: starEach es X.env := by rfl) (hpl : (backTo pos (starEach es X.env)).any (·.1) = false := by rfl)
    (ht : eval (.Call (.Attribute o m apos) (e :: es) [] pos) X.env = (do
      let ov ← eval o X.env
      standAt apos.atName
      let (f, first) ← holding [ov] (getMethod ov m pl)
      callWith pos f first (backTo pos (starEach (e :: es) X.env)) (backToKw pos (keywordEach [] X.env))) := by rfl) :
    PE X (.Call (.Attribute o m apos) (e :: es) [] pos) (tMeth C m sp [] E0 ta t) := by
  obtain ⟨f, fd, h1, h2, h3⟩ := h.ex
  exact pe_meth ho h.cl h1 h3 (hr.mono hj) h2 .nil pass0 ha hst hpl ht
theorem kpe_fld {K : PySem.W.Frag} {f : Str} (he : PE X o ta) (eK : X.K = K := by rfl) (hb : attributeBase o f X.env (eval o X.env) = eval o X.env := by rfl) : PE X (.Attribute o f pos) (tFld K ta f) := by subst eK; exact pe_fld he hb
end
end T

/-! T10: the bodies of Pouring. -/
namespace T
open PySem L2
theorem Wd.less {F F2 H : Hp} {O : Ch} (W : Wd F2 H O) (s : Same F F2) : Wd F H O := ⟨s.trans W.sub, fun q hq => ⟨(W.own q hq).1, by
  cases e : F q.1 with
  | none => rfl
  | some u => rw [← (W.own q hq).2, s _ _ e]⟩, W.nd⟩
/-- the law's promise -/
def spLaw (K : PySem.W.Frag) : Sp := fun vs H Q _ => ∃ (a : Addr) (ns : List Int), vs = [.ref a] ∧ SqL K H a (ns.map V.int) ∧ ns.length ≤ 63 ∧ ∀ H', Q (.bl true) H'
theorem putF_past {f g : Str} {v x : V} {r : List (Str × V)} (h : ¬ g = f) : putF f v ((g, x) :: r) = (g, x) :: putF f v r := by
  show (if g = f then _ else _) = _
  rw [if_neg h]
abbrev rIs0 : R2 := fun x y H Q => y = .non ∧ Q (.bl (decide (x = .non))) H
def tPI (K : PySem.W.Frag) : TS := tSeq (sFld K (tVar 0) (tOp rRep (tLst (tCons (tC (.int 0)) tNil)) (tVar 1)) "later") (sFld K (tVar 0) (tC (.int 0)) "ground")
def tPG (K : PySem.W.Frag) : TS := tIfS (tTest (tOp rIs0 (tVar 1) (tC .non))) (sFldAug K (tVar 0) (tVar 2) rAdd "ground") (tAugS (tFld K (tVar 0) "later") (tVar 1) (tVar 2) (rIxL K) (ipI fun i j => i + j) rSetL)
theorem pour_init {K : PySem.W.Frag} {C : Addr} (TP : PourT K C) {vs : List V} {H : Hp} {Q : VK} {E : XK} (h : spPourInit C vs H Q E) : tPI K { nx := fun _ H' => Q .non H', rt := Q } (start ["self", "many"] vs) H := by
  obtain ⟨p, dx, F, O, n, b, rfl, W, hb, k⟩ := h
  have e : EvO (S := Unit) (tOp rRep (tLst (tCons (tC (.int 0)) tNil)) (tVar 1)) [some (.ref p), some (.int n)] F emp (oLst rInt) _ := eo_op vo_rep (ev_frz (eo_lst (eal_cons ev_int eal_nil))) (ev_var (i := 1) (R := rInt) (x := n) rfl rfl)
  have e0 : few [(0 : Int)] = some [0] := by decide
  have he : (bnd (bnd (bnd (ret 0) fun a => bnd (ret []) fun b => ret (a :: b)) fun xs => lft (few xs)) fun a => bnd (ret n) fun b => lft (repL a b)) () = some (b, ()) := by
    simp [bnd, ret, lft, e0, hb]
  refine e () b () he F H [] _ (SameR _) rfl W _ fun v F2 H2 c2 cb s2 o2 ob W2 => ?_
  obtain ⟨l, ws, rfl, rfl, rp⟩ := ob
  cases o2
  have W3 : Wd F2 H2 ((p, .ins C dx []) :: (l, .lst ws) :: O) := W2.perm (List.Perm.swap _ _ _)
  refine ⟨_, rfl, p, C, dx, [], rfl, W3.hd, TP.cl, TP.nL, (by show 0 < 1000; decide), ?_⟩
  have W4 := W3.set (o' := .ins C dx (putF "later" (.ref l) []))
  refine ⟨_, rfl, p, C, dx, _, rfl, W4.hd, TP.cl, TP.nG, (by show 1 < 1000; decide), ?_⟩
  have W5 := W4.set (o' := .ins C dx (putF "ground" (.int 0) (putF "later" (.ref l) [])))
  refine k _ [(p, .ins C dx [("later", .ref l), ("ground", .int 0)]), (l, .lst ws)] ⟨p, dx, l, ws, rfl, rfl, paired_mono (fun _ _ h => h) rp⟩ ?_
  have e1 : putF "ground" (.int 0) (putF "later" (.ref l) []) = ([("later", .ref l), ("ground", .int 0)] : List (Str × V)) := putF_past (by decide +kernel)
  rw [e1] at W5
  exact W5.less s2
theorem pour_give {K : PySem.W.Frag} {C : Addr} (TP : PourT K C) {vs : List V} {H : Hp} {Q : VK} {E : XK} (h : spPourGive C vs H Q E) : tPG K { nx := fun _ H' => Q .non H', rt := Q } (start ["self", "target", "amount"] vs) H := by
  obtain ⟨i, F, O, c, ⟨u, t, a⟩, s, b, s1, ⟨v0, _, rfl, r0, v1, _, rfl, r1, v2, rfl, r2⟩, ⟨p, dx, l, ws, rfl, rfl, rp⟩, W, hm, k⟩ := h
  obtain rfl : v0 = .ref p := r0
  obtain rfl : v2 = .int a := r2
  replace r1 : (rOpt rInt).r F v1 t := r1
  replace hm : mPourGive t a s = some (b, s1) := hm
  obtain ⟨s1a, s1b⟩ := s
  have lk1 : List.lookup ("later" : Str) ([("later", V.ref l), ("ground", V.int s1b)] : List (Str × V)) = some (.ref l) := rfl
  have ne1 : (("ground" : Str) == ("later" : Str)) = false := by decide +kernel
  have lk2 : List.lookup ("ground" : Str) ([("later", V.ref l), ("ground", V.int s1b)] : List (Str × V)) = some (.int s1b) := by
    rw [List.lookup_cons, ne1]; rfl
  cases t with
  | none =>
    obtain rfl : v1 = .non := r1
    cases hm
    refine ⟨_, rfl, rfl, true, rfl, iteT ?_⟩
    refine ⟨_, rfl, p, C, dx, _, _, rfl, W.hd, TP.cl, TP.nG, lk2, _, rfl, s1b, a, rfl, rfl, dx, _, W.hd, (by show 2 < 1000; decide), ?_⟩
    have W2 := W.set (o' := .ins C dx (putF "ground" (.int (s1b + a)) [("later", .ref l), ("ground", .int s1b)]))
    have e1 : putF "ground" (.int (s1b + a)) [("later", .ref l), ("ground", .int s1b)] = ([("later", .ref l), ("ground", .int (s1b + a))] : List (Str × V)) := (putF_past (by decide +kernel)).trans rfl
    refine k .non F _ [(p, .ins C dx [("later", .ref l), ("ground", .int (s1b + a))]), (l, .lst ws)] (SameR _) ⟨p, dx, l, ws, rfl, rfl, rp⟩ ?_ rfl
    rw [e1] at W2 ⊢
    exact W2
  | some j =>
    obtain rfl : v1 = .int j := r1
    unfold mPourGive at hm
    cases e0 : atI s1a j with
    | none => simp [e0] at hm
    | some y =>
      cases e3 : setI s1a j (y + a) with
      | none => simp [e0, e3] at hm
      | some z =>
        simp [e0, e3] at hm
        obtain ⟨_, rfl⟩ := hm
        obtain ⟨n, hn, rfl⟩ := setI_some e3
        obtain ⟨w', e4, r4⟩ := atI_paired rp e0
        obtain rfl : w' = .int y := r4
        refine ⟨_, rfl, rfl, false, rfl, iteF ?_⟩
        have Wl : Wd F H ((l, .lst ws) :: (p, .ins C dx [("later", .ref l), ("ground", .int s1b)]) :: O) := W.perm (List.Perm.swap _ _ _)
        refine ⟨_, rfl, p, C, dx, _, _, rfl, W.hd, TP.cl, TP.nL, lk1, _, rfl, l, ws, j, .int y, rfl, rfl, SqL.of Wl.hd, e4, _, rfl, y, a, rfl, rfl, l, ws, j, n, rfl, rfl, Wl.hd, by rw [paired_len rp]; exact hn, ?_⟩
        have W5 := (Wl.set (o' := .lst (ws.set n (.int (y + a))))).perm (List.Perm.swap _ _ _)
        exact k .non F _ _ (SameR _) ⟨p, dx, l, _, rfl, rfl, paired_set rp rfl n⟩ W5 rfl
/-! the head -/
theorem fun_of_D {K : PySem.W.Frag} {x q : Str} {st : Stmt} {f : Addr} {fd : FuncData} (F : FunD K x q (defArgs st) (defBody st) (defScope st) [] [] f fd) : Fun K x q st f fd := by
  obtain ⟨oc, od, dV, kV, doc, pm, an, cdv, ct, osl, rfl, lk, hcd, hD, _⟩ := F.ex
  rcases hD with ⟨_, rfl⟩ | ⟨e, _⟩
  · exact ⟨⟨oc, od, kV, doc, pm, an, cdv, ct, osl, rfl, lk, hcd⟩, F.kp⟩
  · exact absurd rfl e
theorem kn_of {P : Program} {w : World} {K : PySem.W.Frag} {mg : Str → Option Value} {base : Heap} {CX : CXT} {k : Nat} {x x1 q : Str} {st : Stmt} {ps : List Str} {sp : Sp} {f : Addr} {fd : FuncData} (F : Fun K x1 q st f fd) (g : mg x = some (.ref f)) (b : Binds K fd ps []) (o : FnOk P w K mg base CX k f fd ps sp) : Kn P w K mg base CX k x ps sp := ⟨_, _, g, F.kp, b, o⟩
def dd (at_ : Str × Option Str) (name qual : Str) (s : Stmt) : He.DefD := ⟨at_, name, qual, defArgs s, defBody s, defScope s, [], []⟩
end T

/-! P1: plain laws of mirrors: a run that ends, and what then holds. -/
namespace T
open PySem L2
def Tot {S Ω : Type} (m : S → Option Ω) (s : S) (Q : Ω → Prop) : Prop := ∃ w, m s = some w ∧ Q w
section
variable {S S' T α β γ Z Ω ρ : Type} {s : S}
theorem Tot.mono {m : S → Option Ω} {Q R : Ω → Prop} (h : Tot m s Q) (k : ∀ w, Q w → R w) : Tot m s R := by
  obtain ⟨w, e, q⟩ := h; exact ⟨w, e, k w q⟩
theorem tot_bnd {m : M S α} {f : α → S → Option Ω} {Q : Ω → Prop} : Tot (bnd m f) s Q ↔ Tot m s (fun w => Tot (f w.1) w.2 Q) := by
  unfold Tot bnd
  constructor
  · rintro ⟨w, e, q⟩
    cases h : m s with
    | none => rw [h] at e; cases e
    | some p => rw [h] at e; exact ⟨p, rfl, w, e, q⟩
  · rintro ⟨p, h, w, e, q⟩
    exact ⟨w, by rw [h]; exact e, q⟩
theorem tot_ret {b : β} {Q : β × S → Prop} : Tot (ret b) s Q ↔ Q (b, s) := ⟨fun ⟨w, e, q⟩ => by cases e; exact q, fun q => ⟨_, rfl, q⟩⟩
theorem tot_some {h : S → Ω} {Q : Ω → Prop} : Tot (fun s => some (h s)) s Q ↔ Q (h s) := ⟨fun ⟨w, e, q⟩ => by cases e; exact q, fun q => ⟨_, rfl, q⟩⟩
theorem tot_lft {o : Option β} {Q : β × S → Prop} : Tot (lft o) s Q ↔ ∃ b, o = some b ∧ Q (b, s) := by
  unfold Tot lft
  constructor
  · rintro ⟨w, e, q⟩
    cases o with
    | none => cases e
    | some b => cases e; exact ⟨b, rfl, q⟩
  · rintro ⟨b, rfl, q⟩; exact ⟨_, rfl, q⟩
theorem tot_lftS {b : β} {Q : β × S → Prop} : Tot (lft (some b)) s Q ↔ Q (b, s) := by rw [tot_lft]; exact ⟨fun ⟨c, e, q⟩ => by cases e; exact q, fun q => ⟨_, rfl, q⟩⟩
theorem tot_zm {g : S → T} {p : S → T → S} {m : M T β} {Q : β × S → Prop} : Tot (zm g p m) s Q ↔ Tot m (g s) (fun w => Q (w.1, p s w.2)) := by
  unfold Tot zm
  constructor
  · rintro ⟨w, e, q⟩
    cases h : m (g s) with
    | none => rw [h] at e; cases e
    | some c => rw [h] at e; cases e; exact ⟨c, rfl, q⟩
  · rintro ⟨c, e, q⟩; exact ⟨_, by rw [e]; rfl, q⟩
theorem tot_nw {k : S × T → Option Ω} {t : T} {Q : Ω → Prop} : Tot (nw k t) s Q ↔ Tot k (s, t) Q := Iff.rfl
theorem tot_rb {p : S → T → S} {f : S → Option Ω} {x : T} {Q : Ω → Prop} : Tot (rb p f x) s Q ↔ Tot f (p s x) Q := Iff.rfl
theorem tot_fzL {g : S → T} {π : S → S'} {k : T → S' → Option Ω} {Q : Ω → Prop} : Tot (fzL g π k) s Q ↔ Tot (k (g s)) (π s) Q := Iff.rfl
theorem tot_drL {π : S → S'} {k : S' → Option Ω} {Q : Ω → Prop} : Tot (drL π k) s Q ↔ Tot k (π s) Q := Iff.rfl
theorem tot_gtL {g : S → T} {f : T → Option β} {Q : β × S → Prop} : Tot (gtL g f) s Q ↔ ∃ b, f (g s) = some b ∧ Q (b, s) := by
  unfold Tot gtL
  constructor
  · rintro ⟨w, e, q⟩
    cases h : f (g s) with
    | none => rw [h] at e; cases e
    | some c => rw [h] at e; cases e; exact ⟨c, rfl, q⟩
  · rintro ⟨c, e, q⟩; exact ⟨_, by rw [e]; rfl, q⟩
theorem tot_gtLS {g : S → T} {f : T → β} {Q : β × S → Prop} : Tot (gtL g fun t => some (f t)) s Q ↔ Q (f (g s), s) := by rw [tot_gtL]; exact ⟨fun ⟨c, e, q⟩ => by cases e; exact q, fun q => ⟨_, rfl, q⟩⟩
theorem tot_upL {g : S → T} {p : S → T → S} {f : T → Option T} {Q : Unit × S → Prop} : Tot (upL g p f) s Q ↔ ∃ t, f (g s) = some t ∧ Q ((), p s t) := by
  unfold Tot upL
  constructor
  · rintro ⟨w, e, q⟩
    cases h : f (g s) with
    | none => rw [h] at e; cases e
    | some c => rw [h] at e; cases e; exact ⟨c, rfl, q⟩
  · rintro ⟨c, e, q⟩; exact ⟨_, by rw [e]; rfl, q⟩
theorem tot_upLS {g : S → T} {p : S → T → S} {f : T → T} {Q : Unit × S → Prop} : Tot (upL g p fun t => some (f t)) s Q ↔ Q ((), p s (f (g s))) := by rw [tot_upL]; exact ⟨fun ⟨c, e, q⟩ => by cases e; exact q, fun q => ⟨_, rfl, q⟩⟩
theorem tot_bif {b : Bool} {f g : S → Option Ω} {Q : Ω → Prop} : Tot (bif b then f else g) s Q ↔ (b = true → Tot f s Q) ∧ (b = false → Tot g s Q) := by cases b <;> simp
theorem tot_rtF {κ : Type} {m : S → Option ρ} {Q : Fl κ ρ → Prop} : Tot (rtF m) s Q ↔ Tot m s (fun w => Q (.rt w)) := by
  unfold Tot rtF
  constructor
  · rintro ⟨w, e, q⟩
    cases h : m s with
    | none => rw [h] at e; cases e
    | some c => rw [h] at e; cases e; exact ⟨c, rfl, q⟩
  · rintro ⟨c, e, q⟩; exact ⟨_, by rw [e]; rfl, q⟩
theorem tot_fthn {m : S → Option (Fl (Z × S) ρ)} {h : Z → S → Option ρ} {Q : ρ → Prop} : Tot (fthn m h) s Q ↔ Tot m s (fun r => match r with | .nx q => Tot (h q.1) q.2 Q | .rt b => Q b) := by
  unfold Tot fthn
  constructor
  · rintro ⟨w, e, q⟩
    cases h1 : m s with
    | none => rw [h1] at e; cases e
    | some c =>
      rw [h1] at e
      cases c with
      | nx z => exact ⟨_, rfl, w, e, q⟩
      | rt b => cases e; exact ⟨_, rfl, q⟩
  · rintro ⟨c, e, q⟩
    cases c with
    | nx z => obtain ⟨w, e2, q⟩ := q; exact ⟨w, by rw [e]; exact e2, q⟩
    | rt b => exact ⟨b, by rw [e]; rfl, q⟩
theorem tot_rn {m : M Unit β} {b : β} : rn m = some b ↔ Tot m () (fun w => w.1 = b) := by
  unfold rn Tot
  constructor
  · intro h
    cases e : m () with
    | none => rw [e] at h; cases h
    | some w => rw [e] at h; cases h; exact ⟨w, rfl, rfl⟩
  · rintro ⟨w, e, rfl⟩; rw [e]; rfl
/-- a loop: I done-so-far z s -/
theorem tot_fd {f : Z → α → M S Z} {Q : Z × S → Prop} (I : List α → Z → S → Prop) {xs : List α} {z0 : Z} (h0 : I [] z0 s) (hs : ∀ pre x post z s1, xs = pre ++ x :: post → I pre z s1 → Tot (f z x) s1 (fun w => I (pre ++ [x]) w.1 w.2)) (hq : ∀ z s1, I xs z s1 → Q (z, s1)) :
    Tot (fd f z0 xs) s Q := by
  have go : ∀ post pre z s1, xs = pre ++ post → I pre z s1 → Tot (fd f z post) s1 Q := by
    intro post
    induction post with
    | nil => intro pre z s1 e i; rw [List.append_nil] at e; subst e; exact ⟨_, rfl, hq _ _ i⟩
    | cons x post ih =>
      intro pre z s1 e i
      show Tot (bnd (f z x) fun z' => fd f z' post) s1 Q
      rw [tot_bnd]
      exact (hs pre x post z s1 e i).mono fun w i2 => ih (pre ++ [x]) w.1 w.2 (by rw [e]; simp) i2
  exact go xs [] z0 s rfl h0
/-- a loop that may return: here it never does -/
theorem tot_fdE {f : Z → α → S → Option (Fl (Z × S) ρ)} {Q : Fl (Z × S) ρ → Prop} (I : List α → Z → S → Prop) {xs : List α} {z0 : Z} (h0 : I [] z0 s) (hs : ∀ pre x post z s1, xs = pre ++ x :: post → I pre z s1 → Tot (f z x) s1 (fun r => match r with | .nx w => I (pre ++ [x]) w.1 w.2 | .rt b => Q (.rt b)))
    (hq : ∀ z s1, I xs z s1 → Q (.nx (z, s1))) : Tot (fdE f z0 xs) s Q := by
  have go : ∀ post pre z s1, xs = pre ++ post → I pre z s1 → Tot (fdE f z post) s1 Q := by
    intro post
    induction post with
    | nil => intro pre z s1 e i; rw [List.append_nil] at e; subst e; exact ⟨_, rfl, hq _ _ i⟩
    | cons x post ih =>
      intro pre z s1 e i
      obtain ⟨r, e1, q1⟩ := hs pre x post z s1 e i
      cases r with
      | nx w =>
        obtain ⟨w2, e2, q2⟩ := ih (pre ++ [x]) w.1 w.2 (by rw [e]; simp) q1
        exact ⟨w2, by show (f z x s1).bind _ = _; rw [e1]; exact e2, q2⟩
      | rt b => exact ⟨.rt b, by show (f z x s1).bind _ = _; rw [e1]; rfl, q1⟩
  exact go xs [] z0 s rfl h0
theorem tot_mp {f : α → M S β} {Q : List β × S → Prop} (I : List α → List β → S → Prop) {xs : List α} (h0 : I [] [] s) (hs : ∀ pre x post ys s1, xs = pre ++ x :: post → I pre ys s1 → Tot (f x) s1 (fun w => I (pre ++ [x]) (ys ++ [w.1]) w.2)) (hq : ∀ ys s1, I xs ys s1 → Q (ys, s1)) :
    Tot (mp f xs) s Q := by
  have go : ∀ post pre ys s1, xs = pre ++ post → I pre ys s1 → Tot (mp f post) s1 (fun w => I xs (ys ++ w.1) w.2) := by
    intro post
    induction post with
    | nil => intro pre ys s1 e i; rw [List.append_nil] at e; subst e; exact ⟨_, rfl, by simpa using i⟩
    | cons x post ih =>
      intro pre ys s1 e i
      show Tot (bnd (f x) fun y => bnd (mp f post) fun ys => ret (y :: ys)) s1 _
      rw [tot_bnd]
      refine (hs pre x post ys s1 e i).mono fun w i2 => ?_
      rw [tot_bnd]
      refine (ih (pre ++ [x]) (ys ++ [w.1]) w.2 (by rw [e]; simp) i2).mono fun w2 i3 => ?_
      rw [tot_ret]
      simpa using i3
  exact (go xs [] [] s rfl h0).mono fun w i => hq _ _ i
theorem tot_mp_pure {f : α → M S β} {Q : List β × S → Prop} (g : α → β) {xs : List α} (h : ∀ x ∈ xs, ∀ s1, f x s1 = some (g x, s1)) (q : Q (xs.map g, s)) : Tot (mp f xs) s Q := by
  refine tot_mp (fun pre ys s1 => ys = pre.map g ∧ s1 = s) ⟨rfl, rfl⟩ ?_ ?_
  · rintro pre x post ys s1 e ⟨rfl, rfl⟩
    exact ⟨_, h x (by rw [e]; simp) _, by simp, rfl⟩
  · rintro ys s1 ⟨rfl, rfl⟩; exact q
theorem tot_mpf_pure {p : α → M S Bool} {f : α → M S β} {Q : List β × S → Prop} (b : α → Bool) (g : α → β) {xs : List α} (hp : ∀ x ∈ xs, ∀ s1, p x s1 = some (b x, s1)) (h : ∀ x ∈ xs, ∀ s1, f x s1 = some (g x, s1)) (q : Q ((xs.filter b).map g, s)) : Tot (mpf p f xs) s Q := by
  have go : ∀ xs : List α, (∀ x ∈ xs, ∀ s1, p x s1 = some (b x, s1)) → (∀ x ∈ xs, ∀ s1, f x s1 = some (g x, s1)) → mpf p f xs s = some ((xs.filter b).map g, s) := by
    intro xs
    induction xs with
    | nil => intro _ _; rfl
    | cons x xs ih =>
      intro hp h
      have i := ih (fun y hy => hp y (List.mem_cons_of_mem _ hy)) (fun y hy => h y (List.mem_cons_of_mem _ hy))
      show bnd (p x) _ s = _
      unfold bnd
      rw [hp x List.mem_cons_self]
      cases e : b x with
      | true => simp [e, h x List.mem_cons_self, i, ret]
      | false => simp [e, i]
  exact ⟨_, go xs hp h, q⟩
/-! partial operators -/
theorem atI_ok {xs : List α} {i : Int} (h0 : 0 ≤ i) (h1 : i < xs.length) : ∃ b, atI xs i = some b ∧ b ∈ xs ∧ xs[i.toNat]? = some b := by
  have h2 : i.toNat < xs.length := by omega
  refine ⟨xs[i.toNat], ?_, List.getElem_mem h2, by simp [h2]⟩
  unfold atI ixN
  rw [if_pos h0, if_pos (by omega)]
  simp [h2]
theorem atI_nat {xs : List α} {k : Nat} {x : α} (h : xs[k]? = some x) : atI xs (k : Int) = some x := by
  have h2 : k < xs.length := (List.getElem?_eq_some_iff.mp h).1
  unfold atI ixN
  rw [if_pos (by omega), if_pos (by omega)]
  simpa using h
theorem setI_nat {xs : List α} {k : Nat} {x : α} (h : k < xs.length) : setI xs (k : Int) x = some (xs.set k x) := by
  unfold setI ixN
  rw [if_pos (by omega), if_pos (by omega)]
  simp
theorem setI_ok {xs : List α} {i : Int} {x : α} (h0 : 0 ≤ i) (h1 : i < xs.length) : setI xs i x = some (xs.set i.toNat x) := by
  unfold setI ixN
  rw [if_pos h0, if_pos (by omega)]; rfl
theorem app_ok {xs : List α} {x : α} (h : xs.length < lim) : app xs x = some (xs ++ [x]) := if_pos h
theorem chk_ok {xs : List α} (h : xs.length < lim) : chk xs = some xs := if_pos h
theorem few_ok {xs : List α} (h : xs.length ≤ 100) : few xs = some xs := if_pos h
theorem catL_ok {xs ys : List α} (h : xs.length + ys.length < lim) : catL xs ys = some (xs ++ ys) := if_pos h
theorem rng_ok {n : Nat} (h : n ≤ 1000000) : rng 0 (n : Int) = some (rngL 0 n) := by
  unfold rng; rw [if_pos (by omega)]; simp
theorem rngL_eq : ∀ (lo : Int) (n : Nat), rngL lo n = (List.range n).map fun (k : Nat) => lo + (k : Int)
  | lo, 0 => rfl
  | lo, n + 1 => by
    rw [List.range_succ_eq_map, List.map_cons, List.map_map]
    show lo :: rngL (lo + 1) n = _
    rw [rngL_eq (lo + 1) n]
    simp only [Int.natCast_zero, Int.add_zero, List.cons.injEq, true_and]
    refine List.map_congr_left fun k _ => ?_
    simp only [Function.comp, Nat.succ_eq_add_one]; omega
theorem mulI_ok {i j : Int} (h : (-(2 ^ 64) < i ∧ i < 2 ^ 64) ∨ (-(2 ^ 64) < j ∧ j < 2 ^ 64)) : mulI i j = some (i * j) := if_pos h
theorem log2_lt {j : Int} (h : 0 < j) (h2 : j < 2 ^ 64) : j.natAbs.log2 < 9000 := by
  have e : j.natAbs < 2 ^ 64 := by omega
  have h3 : j.natAbs ≠ 0 := by omega
  exact Nat.lt_of_lt_of_le ((Nat.log2_lt h3).mpr e) (by decide)
theorem divI_ok {i j : Int} (h : 0 < j) (h2 : j < 2 ^ 64) : divI i j = some (i / j) := if_pos ⟨h, log2_lt h h2⟩
theorem modI_ok {i j : Int} (h : 0 < j) : modI i j = some (i % j) := if_pos h
theorem dvm_ok {i j : Int} (h : 0 < j) (h2 : j < 1073741824) : dvm (i, j) = some (i / j, i % j) := if_pos ⟨h, h2⟩
theorem repL_ok {xs : List α} {n : Nat} (h : n < 1000) (h2 : xs.length < 100) : repL xs (n : Int) = some (List.replicate n xs).flatten := by
  unfold repL; rw [if_pos (by omega)]; simp
end
theorem ex_some {α : Type} {x : α} {p : α → Prop} : (∃ b, some x = some b ∧ p b) ↔ p x := ⟨fun ⟨_, e, q⟩ => by cases e; exact q, fun q => ⟨_, rfl, q⟩⟩
theorem ex_someT {α : Type} {x : α} : (∃ b, some x = some b) ↔ True := ⟨fun _ => trivial, fun _ => ⟨_, rfl⟩⟩
theorem few0 {α : Type} : few ([] : List α) = some [] := rfl
theorem few1 {α : Type} {a : α} : few [a] = some [a] := rfl
theorem few2 {α : Type} {a b : α} : few [a, b] = some [a, b] := rfl
theorem few3 {α : Type} {a b c : α} : few [a, b, c] = some [a, b, c] := rfl
theorem tot_cut {S α Ω : Type} {s : S} {m : S → Option (α × S)} {f : α → S → Option Ω} {Q : Ω → Prop} (R : α × S → Prop) (h : Tot m s R) (k : ∀ a s1, R (a, s1) → Tot (f a) s1 Q) : Tot (bnd m f) s Q := tot_bnd.mpr (h.mono fun w r => k w.1 w.2 r)
/-- an index in a display -/
theorem at_in {α : Type} {xs : List α} {i : Int} {Q : α → Prop} (P : α → Prop) (h0 : 0 ≤ i) (h1 : i < xs.length) (hp : ∀ x ∈ xs, P x) (k : ∀ x, P x → Q x) : ∃ b, atI xs i = some b ∧ Q b := by
  obtain ⟨b, hb, hm, _⟩ := atI_ok h0 h1
  exact ⟨b, hb, k b (hp b hm)⟩
theorem tot_seq {S α Ω : Type} {s : S} {m : S → Option (α × S)} {f : α → S → Option Ω} {Q : Ω → Prop} (a : α) (s1 : S) (h : Tot m s (fun w => w = (a, s1))) (k : Tot (f a) s1 Q) : Tot (bnd m f) s Q := tot_cut _ h fun b s2 e => by cases e; exact k
theorem tot_eq {S Ω : Type} {s : S} {m : S → Option Ω} {a : Ω} : Tot m s (fun w => w = a) ↔ m s = some a := ⟨fun ⟨_, e, h⟩ => by rw [e, h], fun e => ⟨_, e, rfl⟩⟩
/-! loops by index -/
section
variable {S α β Z : Type} {s : S}
theorem tot_fd_ix {f : Z → α → M S Z} {Q : Z × S → Prop} (I : Nat → Z → S → Prop) {xs : List α} {z0 : Z} (h0 : I 0 z0 s) (hs : ∀ k x z s1, xs[k]? = some x → I k z s1 → Tot (f z x) s1 (fun w => I (k + 1) w.1 w.2)) (hq : ∀ z s1, I xs.length z s1 → Q (z, s1)) : Tot (fd f z0 xs) s Q := by
  refine tot_fd (fun pre z s1 => I pre.length z s1) h0 ?_ hq
  intro pre x post z s1 e i
  have hx : xs[pre.length]? = some x := by rw [e]; simp
  exact (hs pre.length x z s1 hx i).mono fun w i2 => by simpa using i2
theorem rngL_at {n k : Nat} {x : Int} (h : (rngL 0 n)[k]? = some x) : x = (k : Int) ∧ k < n := by
  rw [rngL_eq] at h
  have hl : k < n := by
    have := (List.getElem?_eq_some_iff.mp h).1
    simpa using this
  simp [hl] at h
  exact ⟨h.symm, hl⟩
theorem tot_fd_rng {f : Z → Int → M S Z} {Q : Z × S → Prop} (I : Nat → Z → S → Prop) {n : Nat} {z0 : Z} (h0 : I 0 z0 s) (hs : ∀ k z s1, k < n → I k z s1 → Tot (f z (k : Int)) s1 (fun w => I (k + 1) w.1 w.2)) (hq : ∀ z s1, I n z s1 → Q (z, s1)) : Tot (fd f z0 (rngL 0 n)) s Q := by
  refine tot_fd_ix I h0 ?_ ?_
  · intro k x z s1 hx i
    obtain ⟨rfl, hl⟩ := rngL_at hx
    exact hs k z s1 hl i
  · intro z s1 i
    rw [rngL_len] at i
    exact hq z s1 i
theorem enumL_at {xs : List α} {k : Nat} {q : Int × α} (h : (enumL xs)[k]? = some q) : q.1 = (k : Int) ∧ xs[k]? = some q.2 := by
  unfold enumL at h
  rw [List.getElem?_zip_eq_some] at h
  exact ⟨(rngL_at h.1).1, h.2⟩
theorem enumL_len {xs : List α} : (enumL xs).length = xs.length := by
  unfold enumL; rw [List.length_zip, rngL_len]; omega
theorem tot_fd_enum {f : Z → Int × α → M S Z} {Q : Z × S → Prop} (I : Nat → Z → S → Prop) {xs : List α} {z0 : Z} (h0 : I 0 z0 s) (hs : ∀ k x z s1, xs[k]? = some x → I k z s1 → Tot (f z ((k : Int), x)) s1 (fun w => I (k + 1) w.1 w.2)) (hq : ∀ z s1, I xs.length z s1 → Q (z, s1)) : Tot (fd f z0 (enumL xs)) s Q := by
  refine tot_fd_ix I h0 ?_ ?_
  · rintro k ⟨a, x⟩ z s1 hx i
    obtain ⟨e, e2⟩ := enumL_at hx
    dsimp only at e e2
    rw [e]
    exact hs k x z s1 e2 i
  · intro z s1 i
    rw [enumL_len] at i
    exact hq z s1 i
theorem tot_mp_rng {f : Int → M S β} {Q : List β × S → Prop} (g : Nat → β) {n : Nat} (h : ∀ k, k < n → ∀ s1, Tot (f (k : Int)) s1 (fun w => w = (g k, s1))) (q : Q ((List.range n).map g, s)) : Tot (mp f (rngL 0 n)) s Q := by
  have := tot_mp_pure (f := f) (Q := Q) (s := s) (xs := rngL 0 n) (fun i => g i.toNat) (fun x hx s1 => by
    obtain ⟨k, hk⟩ := List.getElem?_of_mem hx
    obtain ⟨rfl, hl⟩ := rngL_at hk
    obtain ⟨w, e, rfl⟩ := h k hl s1
    simpa using e) (by
    have e : ((fun i : Int => g i.toNat) ∘ fun k : Nat => (0 : Int) + (k : Int)) = g := by funext k; simp
    rw [rngL_eq, List.map_map, e]
    exact q)
  exact this
theorem tot_mp_fn {f : α → M S β} {Q : List β × S → Prop} (g : α → β) {xs : List α} (h : ∀ x ∈ xs, ∀ s1, Tot (f x) s1 (fun w => w = (g x, s1))) (q : Q (xs.map g, s)) : Tot (mp f xs) s Q :=
  tot_mp_pure g (fun x hx s1 => by obtain ⟨w, e, rfl⟩ := h x hx s1; exact e) q
theorem tot_mpf_fn {p : α → M S Bool} {f : α → M S β} {Q : List β × S → Prop} (b : α → Bool) (g : α → β) {xs : List α} (hp : ∀ x ∈ xs, ∀ s1, Tot (p x) s1 (fun w => w = (b x, s1))) (h : ∀ x ∈ xs, ∀ s1, Tot (f x) s1 (fun w => w = (g x, s1))) (q : Q ((xs.filter b).map g, s)) : Tot (mpf p f xs) s Q :=
  tot_mpf_pure b g (fun x hx s1 => by obtain ⟨w, e, rfl⟩ := hp x hx s1; exact e) (fun x hx s1 => by obtain ⟨w, e, rfl⟩ := h x hx s1; exact e) q
theorem get_at {xs : List α} {k : Nat} (d : α) (h : k < xs.length) : xs[k]? = some (xs.getD k d) := by
  rw [List.getElem?_eq_some_iff]; exact ⟨h, by simp [List.getD, h]⟩
theorem atI_d {xs : List α} {k : Nat} (d : α) (h : k < xs.length) : atI xs (k : Int) = some (xs.getD k d) := atI_nat (get_at d h)
theorem atI_dI {xs : List α} {i : Int} (d : α) (h0 : 0 ≤ i) (h : i < xs.length) : atI xs i = some (xs.getD i.toNat d) := by
  have := atI_d (xs := xs) (k := i.toNat) d (by omega)
  rwa [Int.toNat_of_nonneg h0] at this
theorem getD_of {xs : List α} {k : Nat} {x d : α} (h : xs[k]? = some x) : xs.getD k d = x := by simp [List.getD, h]
end
/-! data: equal things -/
structure DE {α : Type} {R : Rl α} (D : RD R) (n : Nat) : Prop where
  lay : ∀ x, (D.d x).canLay0 = true
  dep : ∀ x, (D.d x).depth ≤ n
  eq : ∀ x y, PyData.eqv (D.d x) (D.d y) = true ↔ x = y
structure DEA {α : Type} {A : Ar α} (D : AD A) (n : Nat) : Prop where
  lay : ∀ x, PyData.canLayAll0 (D.d x) = true
  dep : ∀ x, PyData.depthAll (D.d x) ≤ n
  eq : ∀ x y, PyData.eqvAll (D.d x) (D.d y) = true ↔ x = y
theorem de_int : DE dInt 1 := ⟨fun _ => rfl, fun x => by simp [dInt, PyData.depth], fun x y => by simp [dInt, PyData.eqv]⟩
theorem de_bool : DE dBool 1 := ⟨fun _ => rfl, fun x => by simp [dBool, PyData.depth], fun x y => by simp [dBool, PyData.eqv]⟩
theorem de_tup {α : Type} {R : Rl α} {D : RD R} {n : Nat} (h : DE D n) : DE (dTup D) (n + 1) := by
  refine ⟨fun xs => ?_, fun xs => ?_, fun xs ys => ?_⟩
  · show PyData.canLay0 (.tuple (xs.map D.d)) = true
    rw [PyData.canLay0]
    induction xs with
    | nil => rfl
    | cons x xs ih => rw [List.map_cons, PyData.canLayAll0, h.lay x, ih]; rfl
  · show PyData.depth (.tuple (xs.map D.d)) ≤ n + 1
    rw [PyData.depth]
    have : PyData.depthAll (xs.map D.d) ≤ n := by
      induction xs with
      | nil => simp [PyData.depthAll]
      | cons x xs ih => rw [List.map_cons, PyData.depthAll]; have := h.dep x; omega
    omega
  · show PyData.eqv (.tuple (xs.map D.d)) (.tuple (ys.map D.d)) = true ↔ _
    rw [PyData.eqv]
    induction xs generalizing ys with
    | nil => cases ys <;> simp [PyData.eqvAll]
    | cons x xs ih =>
      cases ys with
      | nil => simp [PyData.eqvAll]
      | cons y ys => rw [List.map_cons, List.map_cons, PyData.eqvAll, Bool.and_eq_true, h.eq, ih]; simp
theorem de_lst {α : Type} {R : Rl α} {D : RD R} {n : Nat} (h : DE D n) : DE (dLst D) (n + 1) := by
  refine ⟨fun xs => ?_, fun xs => ?_, fun xs ys => ?_⟩
  · show PyData.canLay0 (.list (xs.map D.d)) = true
    rw [PyData.canLay0]
    induction xs with
    | nil => rfl
    | cons x xs ih => rw [List.map_cons, PyData.canLayAll0, h.lay x, ih]; rfl
  · show PyData.depth (.list (xs.map D.d)) ≤ n + 1
    rw [PyData.depth]
    have : PyData.depthAll (xs.map D.d) ≤ n := by
      induction xs with
      | nil => simp [PyData.depthAll]
      | cons x xs ih => rw [List.map_cons, PyData.depthAll]; have := h.dep x; omega
    omega
  · show PyData.eqv (.list (xs.map D.d)) (.list (ys.map D.d)) = true ↔ _
    rw [PyData.eqv]
    induction xs generalizing ys with
    | nil => cases ys <;> simp [PyData.eqvAll]
    | cons x xs ih =>
      cases ys with
      | nil => simp [PyData.eqvAll]
      | cons y ys => rw [List.map_cons, List.map_cons, PyData.eqvAll, Bool.and_eq_true, h.eq, ih]; simp
theorem dea_one {α : Type} {R : Rl α} {D : RD R} {n : Nat} (h : DE D n) : DEA (daOne D) n := by
  refine ⟨fun x => ?_, fun x => ?_, fun x y => ?_⟩
  · show PyData.canLayAll0 [D.d x] = true
    rw [PyData.canLayAll0, h.lay]; rfl
  · show PyData.depthAll [D.d x] ≤ n
    rw [PyData.depthAll, PyData.depthAll]; have := h.dep x; omega
  · show PyData.eqvAll [D.d x] [D.d y] = true ↔ _
    rw [PyData.eqvAll, Bool.and_eq_true, h.eq]; simp [PyData.eqvAll]
theorem dea_c {α β : Type} {R : Rl α} {D : RD R} {A : Ar β} {E : AD A} {n : Nat} (h : DE D n) (k : DEA E n) : DEA (daC D E) n := by
  refine ⟨fun x => ?_, fun x => ?_, fun x y => ?_⟩
  · show PyData.canLayAll0 (D.d x.1 :: E.d x.2) = true
    rw [PyData.canLayAll0, h.lay, k.lay]; rfl
  · show PyData.depthAll (D.d x.1 :: E.d x.2) ≤ n
    rw [PyData.depthAll]; have := h.dep x.1; have := k.dep x.2; omega
  · show PyData.eqvAll (D.d x.1 :: E.d x.2) (D.d y.1 :: E.d y.2) = true ↔ _
    rw [PyData.eqvAll, Bool.and_eq_true, h.eq, k.eq, Prod.ext_iff]
theorem de_th {β : Type} {A : Ar β} {E : AD A} {n : Nat} (k : DEA E n) : DE (dTh E) (n + 1) := by
  refine ⟨fun x => ?_, fun x => ?_, fun x y => ?_⟩
  · show PyData.canLay0 (.tuple (E.d x)) = true
    rw [PyData.canLay0, k.lay]
  · show PyData.depth (.tuple (E.d x)) ≤ n + 1
    rw [PyData.depth]; have := k.dep x; omega
  · show PyData.eqv (.tuple (E.d x)) (.tuple (E.d y)) = true ↔ _
    rw [PyData.eqv, k.eq]
theorem DE.up {α : Type} {R : Rl α} {D : RD R} {n m : Nat} (h : DE D n) (l : n ≤ m) : DE D m := ⟨h.lay, fun x => Nat.le_trans (h.dep x) l, h.eq⟩
theorem de_shaped {α : Type} {R : Rl α} {D : RD R} {n : Nat} (h : DE D n) (l : n ≤ 64) (x : α) : SeqAt.shaped (D.d x) = true := by
  unfold SeqAt.shaped; rw [h.lay, decide_eq_true (Nat.le_trans (h.dep x) l)]; rfl
theorem eqD_same {α : Type} {R : Rl α} {D : RD R} {n : Nat} (h : DE D n) (l : n ≤ 64) (x : α) : eqD (D.d x) (D.d x) = some true := by
  unfold eqD; rw [if_pos ⟨de_shaped h l x, de_shaped h l x⟩, (h.eq x x).mpr rfl]
theorem neD_same {α : Type} {R : Rl α} {D : RD R} {n : Nat} (h : DE D n) (l : n ≤ 64) (x : α) : neD (D.d x) (D.d x) = some false := by
  unfold neD; rw [if_pos ⟨de_shaped h l x, de_shaped h l x⟩, (h.eq x x).mpr rfl]; rfl
theorem eqD_dec {α : Type} [DecidableEq α] {R : Rl α} {D : RD R} {n : Nat} (h : DE D n) (l : n ≤ 64) (x y : α) : eqD (D.d x) (D.d y) = some (decide (x = y)) := by
  unfold eqD; rw [if_pos ⟨de_shaped h l x, de_shaped h l y⟩]
  by_cases e : x = y
  · rw [decide_eq_true e, (h.eq x y).mpr e]
  · rw [decide_eq_false e]
    cases q : PyData.eqv (D.d x) (D.d y) with
    | true => exact absurd ((h.eq x y).mp q) e
    | false => rfl
theorem neD_dec {α : Type} [DecidableEq α] {R : Rl α} {D : RD R} {n : Nat} (h : DE D n) (l : n ≤ 64) (x y : α) : neD (D.d x) (D.d y) = some (!decide (x = y)) := by
  have e := eqD_dec h l x y
  unfold eqD at e; unfold neD
  rw [if_pos ⟨de_shaped h l x, de_shaped h l y⟩] at e ⊢
  rw [Option.some.inj e]
end T

/-! T11: Tipwell's types; attributes as targets; a Run's heap. -/
namespace T
open PySem L2
abbrev Out := Option Int × Int
abbrev Act := Str × Int
abbrev Vessel := Int × Int × List Out × Bool × Option Int × List Act
abbrev Spout := Int × Int × Bool
abbrev Net := List Vessel × List Spout
abbrev State := List Int × List Int × List Bool
abbrev rOut := rTh (arC (rOpt rInt) (arOne rInt))
abbrev rAct := rTh (arC rStr (arOne rInt))
abbrev rVessel := rTh (arC rInt (arC rInt (arC (rTup rOut) (arC rBool (arC (rOpt rInt) (arOne (rTup rAct)))))))
abbrev rSpout := rTh (arC rInt (arC rInt (arOne rBool)))
abbrev rNet := rTh (arC (rTup rVessel) (arOne (rTup rSpout)))
abbrev rState := rTh (arC (rTup rInt) (arC (rTup rInt) (arOne (rTup rBool))))
def dOut : RD rOut := dTh (daC (dOpt dInt) (daOne dInt))
def dAct : RD rAct := dTh (daC dStr (daOne dInt))
def dVessel : RD rVessel := dTh (daC dInt (daC dInt (daC (dTup dOut) (daC dBool (daC (dOpt dInt) (daOne (dTup dAct)))))))
def dSpout : RD rSpout := dTh (daC dInt (daC dInt (daOne dBool)))
def dNet : RD rNet := dTh (daC (dTup dVessel) (daOne (dTup dSpout)))
def dState : RD rState := dTh (daC (dTup dInt) (daC (dTup dInt) (daOne (dTup dBool))))
/-- one of two -/
def rSum {α β : Type} (R : Rl α) (R' : Rl β) : Rl (α ⊕ β) where
  r := fun F v x => match x with
    | .inl a => R.r F v a
    | .inr b => R'.r F v b
  mono := fun {F F' v x} s h => by
    cases x with
    | inl a => exact R.mono s h
    | inr b => exact R'.mono s h
abbrev TipAt := Int × Int
abbrev rTipAt := rTh (arC rInt (arOne rInt))
abbrev RRow := Str × Int × (Int ⊕ List TipAt)
abbrev rRRow := rTh (arC rStr (arC rInt (arOne (rSum rInt (rTup rTipAt)))))
abbrev Elder := State × List Int × (Int × Int × Int) × List Int
abbrev rElder := rTh (arC rState (arC (rTup rInt) (arC (rTh (arC rInt (arC rInt (arOne rInt)))) (arOne (rLst rInt)))))
/-! an attribute as a target -/
def gFld (K : PySem.W.Frag) (ta : TE) (f : Str) : TG := fun v σ H Q => ta σ H fun x H2 => ∃ a C dx fs, x = .ref a ∧ H2 a = some (.ins C dx fs) ∧ Cls K C ∧ NoAttr K C f ∧ fs.length < 1000 ∧ Q σ (upd H2 a (.ins C dx (putF f v fs)))
theorem pg_fld {X : Cx} {o : Expr} {f : Str} {pos : Pos} {ta : TE} (ha : PE X o ta) : PG X (.Attribute o f pos) (gFld X.K ta f) := by
  refine ⟨fun pins s σ H v u Q I r h => ?_⟩
  rw [assign_Attribute]
  refine wpAny_bind (wpAny_holding (thn (ha.run pins s σ H _ I h) fun ov s2 ⟨x, H2, I2, rx, a, C, dx, fs, ex, ea, c, n, l, q2⟩ => ?_))
  subst ex
  obtain rfl : ov = Value.ref a := rx
  refine wpAny_bind (wpAny_standAt (wpAny_bind (wpAny_holding (setattr_ok I2 ea c n l r fun s3 I3 => ?_))))
  exact wpAny_release ⟨σ, _, I3, q2⟩
theorem kpg_fld {X : Cx} {K : PySem.W.Frag} {o : Expr} {f : Str} {pos : Pos} {ta : TE} (ha : PE X o ta) (e : X.K = K := by rfl) : PG X (.Attribute o f pos) (gFld K ta f) := by subst e; exact pg_fld ha
theorem kps_fld {X : Cx} {K : PySem.W.Frag} {o value : Expr} {f : Str} {pos pos' : Pos} {ta tv : TE} (ha : PE X o ta) (hv : PE X value tv) (hs : swapsWith value (some (.Attribute o f pos')) pos.line X.env = pure false) (e : X.K = K := by rfl) : PS X (.Assign [.Attribute o f pos'] value pos) (sFld K ta tv f) := by subst e; exact ps_fld ha hv hs
theorem kps_fldaug {X : Cx} {K : PySem.W.Frag} {o value : Expr} {f : Str} {pos tpos : Pos} {ta tv : TE} {op : Operator} {rd : V → V → Hp → VK → Prop} (ha : PE X o ta) (hv : PE X value tv) (hop : InOp X op rd) (e : X.K = K := by rfl) : PS X (.AugAssign (.Attribute o f tpos) op value pos) (sFldAug K ta tv rd f) := by subst e; exact ps_fldaug ha hv hop
/-! a statement that is never reached -/
def tDead : TS := fun _ _ _ => False
theorem ps_dead {X : Cx} {s : Stmt} : PS X s tDead := ⟨fun _ _ _ _ _ _ h => h.elim⟩
section
variable {S S' T' α β γ Ω : Type} {R : Rl α} {R' : Rl β} {U : Rl γ} {K : PySem.W.Frag} {C : Addr} {σ : L2.St} {F : Hp} {A : Ow S} {te te0 ti ta : TE} {u : TS} {P : Post Ω} {v w : V} {j : Nat} {m : M S α} {mi : M S Int}
theorem b_dead : B (tSeq tDead u) σ F A P (fun _ => none) := fun s w hm => by cases hm
/-! an expression that gives a value, and does nothing -/
def Rd (te : TE) (σ : L2.St) (A : Ow S) (v : V) : Prop := ∀ (F H : Hp) (s : S) (c O : Ch), A.o F s c → Wd F H (c ++ O) → ∀ Q : VK, Q v H → te σ H Q
theorem rd_var (hv : σ[j]? = some (some v)) : Rd (tVar j) σ A v := fun F H s c O ho W Q q => ⟨v, hv, q⟩
theorem ev_ixR {g : S → List α} {p : S → List α → S} (hv : Rd te0 σ A v) (e : Emb A (oLst R v) g p) (hi : Ev ti σ F A rInt mi) : Ev (tOp (rIxL K) te0 ti) σ F A R (bnd mi fun i => gtL g fun xs => atI xs i) := fun s b s' hm F1 H c O sm ho W Q q => by
  obtain ⟨i, s1, h1, hm⟩ := bnd_some hm
  obtain ⟨h2, rfl⟩ := gtL_some hm
  refine hv F1 H _ c O ho W _ (hi _ i _ h1 F1 H c O sm ho W _ fun y F2 H2 c2 s2 o2 W2 r2 => ?_)
  obtain ⟨l, vs, c3, rfl, rp, W3, k⟩ := emb_list e o2 W2
  obtain ⟨w, e1, r1⟩ := atI_paired rp h2
  exact ⟨l, vs, i, w, rfl, r2, SqL.of W3.hd, e1, q w F2 H2 c2 s2 o2 W2 r1⟩
theorem ev_cbR {r : List V → Hp → VK → Prop} {f : List α → Option β} {g : S → List α} {p : S → List α → S} (hr : VH r R R' f) (hv : Rd te0 σ A v) (e : Emb A (oLst R v) g p) : Ev (tCB r (tCons te0 tNil)) σ F A R' (gtL g f) := fun s b s' hm F1 H c O sm ho W Q q => by
  obtain ⟨h2, rfl⟩ := gtL_some hm
  refine hv F1 H _ c O ho W _ ?_
  obtain ⟨l, vs, c3, rfl, rp, W3, k⟩ := emb_list e ho W
  exact hr F1 H _ l vs _ b W W3.hd rp h2 Q fun v F' H' s' W' r' => q v F' H' c s' (A.mono s' ho) W' r'
theorem b_appR {g : S → List α} {p : S → List α → S} {f : S → Option Ω} (hv : Rd te0 σ A v) (e : Emb A (oLst R v) g p) (he : Ev te σ F A R m) (k : B u σ F A P f) : B (tSeq (tDrop (tBM K "list" rAppend te0 (tCons te tNil))) u) σ F A P (bnd m fun x => bnd (upL g p fun xs => app xs x) fun _ => f) := fun s w hm F1 H c O sm ho W D q => by
  obtain ⟨x, s1, h1, hm⟩ := bnd_some hm
  obtain ⟨_, s2, h2, hm⟩ := bnd_some hm
  obtain ⟨xs, h2a, rfl⟩ := upL_some h2
  obtain ⟨rfl, hl⟩ := app_some h2a
  refine hv F1 H s c O ho W _ ?_
  obtain ⟨l0, vs0, c0, e0, _, W0, _⟩ := emb_list e ho W
  refine ⟨by rw [e0]; exact Or.inl ⟨rfl, vs0, SqL.of W0.hd⟩, ?_⟩
  refine he s x s1 h1 F1 H c O sm ho W _ fun y F2 H2 c2 sm2 o2 W2 r2 => ?_
  obtain ⟨l, vs, c3, rfl, rp, W3, kk⟩ := emb_list e o2 W2
  refine ⟨l, vs, y, rfl, rfl, W3.hd, by rw [paired_len rp]; exact lim_le hl, ?_⟩
  obtain ⟨c4, o4, W4⟩ := kk F2 _ (vs ++ [y]) (SameR _) (rp.snoc r2) _ W3.set
  exact k _ w hm F2 _ c4 O (sm.trans sm2) o4 W4 D (P.mono sm2 q)
theorem b_augR {g : S → List Int} {p : S → List Int → S} {m : M S Int} {h : Int → Int → Int} {f : S → Option Ω} (hv : Rd te0 σ A v) (e : Emb A (oLst rInt v) g p) (hi : Ev ti σ F A rInt mi) (he : Ev te σ F A rInt m) (k : B u σ F A P f) :
    B (tSeq (tAugS te0 ti te (rIxL K) (ipI h) rSetL) u) σ F A P (bnd mi fun i => bnd (gtL g fun xs => atI xs i) fun y => bnd m fun x => bnd (upL g p fun xs => setI xs i (h y x)) fun _ => f) := fun s w hm F1 H c O sm ho W D q => by
  obtain ⟨i, s1, h1, hm⟩ := bnd_some hm
  obtain ⟨y, s2, h2, hm2⟩ := bnd_some hm
  clear hm
  obtain ⟨h2a, e2⟩ := gtL_some h2
  subst e2
  obtain ⟨x, s3, h3, hm3⟩ := bnd_some hm2
  obtain ⟨_, s4, h4, hm⟩ := bnd_some hm3
  obtain ⟨xs, h4a, rfl⟩ := upL_some h4
  obtain ⟨n, hn, rfl⟩ := setI_some h4a
  refine hv F1 H s c O ho W _ (hi s i _ h1 F1 H c O sm ho W _ fun z F2 H2 c2 sm2 o2 W2 r2 => ?_)
  obtain ⟨l, vs, c4, e0, rp, W4, kk⟩ := emb_list e o2 W2
  obtain ⟨w', e1, r1⟩ := atI_paired rp h2a
  refine ⟨l, vs, i, w', e0, r2, SqL.of W4.hd, e1, ?_⟩
  refine he _ x s3 h3 F2 H2 c2 O (sm.trans sm2) o2 W2 _ fun z3 F3 H3 c3 sm3 o3 W3 r3 => ⟨y, x, r1, r3, ?_⟩
  obtain ⟨l, vs, c5, rfl, rp, W5, kk⟩ := emb_list e o3 W3
  refine ⟨l, vs, i, n, rfl, r2, W5.hd, by rw [paired_len rp]; exact hn, ?_⟩
  obtain ⟨c6, o6, W6⟩ := kk F3 _ (vs.set n _) (SameR _) (paired_set rp rfl n) _ W5.set
  exact k _ w hm F3 _ c6 O ((sm.trans sm2).trans sm3) o6 W6 D (P.mono (sm2.trans sm3) q)
end
/-! ### a Run -/
abbrev RCore := Net × State × Int × Int × Int
def runFs (vn vs vh vt vr ve : V) (g c d : Int) : List (Str × V) := [("net", vn), ("now", vs), ("hand", vh), ("many_gone", .int g), ("all_tips", vt), ("all_came", .int c), ("all_ground", .int d), ("rows", vr), ("elder", ve)]
theorem lk_ne {k a : Str} {b : V} {l : List (Str × V)} (h : (k == a) = false := by decide +kernel) : List.lookup k ((a, b) :: l) = List.lookup k l := by rw [List.lookup_cons, h]
theorem lk_eq {k : Str} {b : V} {l : List (Str × V)} : List.lookup k ((k, b) :: l) = some b := by rw [List.lookup_cons, beq_self_eq_true]
theorem putF_hit {f : Str} {v x : V} {r : List (Str × V)} : putF f v ((f, x) :: r) = (f, v) :: r := if_pos rfl
def oCore (C : Addr) (v vh vt vr ve : V) : Ow RCore where
  o := fun F s c => ∃ p dx vn vs, v = .ref p ∧ c = [(p, .ins C dx (runFs vn vs vh vt vr ve s.2.2.1 s.2.2.2.1 s.2.2.2.2))] ∧ rNet.r F vn s.1 ∧ rState.r F vs s.2.1
  mono := fun s ⟨p, dx, vn, vs, e, h, r1, r2⟩ => ⟨p, dx, vn, vs, e, h, rNet.mono s r1, rState.mono s r2⟩
/-- a list of lists, all owned -/
def oLL {α : Type} (R : Rl α) (v : V) : Ow (List (List α)) where
  o := fun F s c => ∃ l, ∃ ts : List (Addr × List V), v = .ref l ∧ c = (l, .lst (ts.map fun q => V.ref q.1)) :: ts.map (fun q => (q.1, HO.lst q.2)) ∧ Paired (fun (q : Addr × List V) xs => Paired (R.r F) q.2 xs) ts s
  mono := fun s ⟨l, ts, e, h, r⟩ => ⟨l, ts, e, h, r.mono fun _ _ q => paired_mono (fun _ _ => R.mono s) q⟩
structure RunT (K : PySem.W.Frag) (C : Addr) : Prop where
  cl : Cls K C
  net : NoAttr K C "net"
  now : NoAttr K C "now"
  hand : NoAttr K C "hand"
  many_gone : NoAttr K C "many_gone"
  all_tips : NoAttr K C "all_tips"
  all_came : NoAttr K C "all_came"
  all_ground : NoAttr K C "all_ground"
  rows : NoAttr K C "rows"
  elder : NoAttr K C "elder"
abbrev RunS := (((RCore × List Int) × List (List Int)) × List RRow) × List Elder
abbrev oParts (C : Addr) (v vh vt vr ve : V) : Ow RunS := star (star (star (star (oCore C v vh vt vr ve) (oLst rInt vh)) (oLL rInt vt)) (oLst rRRow vr)) (oLst rElder ve)
def oRun (C : Addr) (v : V) : Ow RunS where
  o := fun F s c => ∃ vh vt vr ve, (oParts C v vh vt vr ve).o F s c
  mono := fun s ⟨vh, vt, vr, ve, h⟩ => ⟨vh, vt, vr, ve, (oParts C v vh vt vr ve).mono s h⟩
section
variable {S S' T' α β γ Ω : Type} {K : PySem.W.Frag} {C : Addr} {σ : L2.St} {F : Hp} {A : Ow S} {te te0 ti ta : TE} {u : TS} {P : Post Ω} {v w vh vt vr ve : V} {j : Nat} {g : S → RCore} {p : S → RCore → S}
theorem b_open {f : RunS → Option Ω} (h : ∀ vh vt vr ve, B u σ F (oParts C v vh vt vr ve) P f) : B u σ F (oRun C v) P f := fun s w hm F1 H c O sm ⟨vh, vt, vr, ve, ho⟩ W D q => h vh vt vr ve s w hm F1 H c O sm ho W D q
theorem pr_run : Pr (oParts C v vh vt vr ve) (oRun C v) (fun s => s) := ⟨fun {F s c} h => ⟨c, [], by simp, vh, vt, vr, ve, h⟩⟩
theorem emb_core {F H : Hp} {s : S} {c O : Ch} (e : Emb A (oCore C v vh vt vr ve) g p) (ho : A.o F s c) (W : Wd F H (c ++ O)) : ∃ a dx vn vs c2, v = .ref a ∧ rNet.r F vn (g s).1 ∧ rState.r F vs (g s).2.1 ∧ Wd F H ((a, .ins C dx (runFs vn vs vh vt vr ve (g s).2.2.1 (g s).2.2.2.1 (g s).2.2.2.2)) :: (c2 ++ O)) ∧
    ∀ F' vn' vs' (t : RCore), Same F F' → rNet.r F' vn' t.1 → rState.r F' vs' t.2.1 → ∀ H', Wd F' H' ((a, .ins C dx (runFs vn' vs' vh vt vr ve t.2.2.1 t.2.2.2.1 t.2.2.2.2)) :: (c2 ++ O)) → ∃ c', A.o F' (p s t) c' ∧ Wd F' H' (c' ++ O) := by
  obtain ⟨c1, c2, pm, ⟨a, dx, vn, vs, e1, rfl, r1, r2⟩, k⟩ := e.split ho
  refine ⟨a, dx, vn, vs, c2, e1, r1, r2, W.perm (pm.append_right O), fun F' vn' vs' t s' r1' r2' H' W' => ?_⟩
  obtain ⟨c', o', pm'⟩ := k F' t _ s' ⟨a, dx, vn', vs', e1, rfl, r1', r2'⟩
  exact ⟨c', o', W'.perm (pm'.append_right O).symm⟩
theorem lk_net {vn vs : V} {a b c : Int} : List.lookup ("net" : Str) (runFs vn vs vh vt vr ve a b c) = some vn := lk_eq
theorem lk_now {vn vs : V} {a b c : Int} : List.lookup ("now" : Str) (runFs vn vs vh vt vr ve a b c) = some vs := (lk_ne).trans lk_eq
theorem lk_hand {vn vs : V} {a b c : Int} : List.lookup ("hand" : Str) (runFs vn vs vh vt vr ve a b c) = some vh := (lk_ne).trans ((lk_ne).trans lk_eq)
theorem lk_gone {vn vs : V} {a b c : Int} : List.lookup ("many_gone" : Str) (runFs vn vs vh vt vr ve a b c) = some (.int a) := (lk_ne).trans ((lk_ne).trans ((lk_ne).trans lk_eq))
theorem lk_tips {vn vs : V} {a b c : Int} : List.lookup ("all_tips" : Str) (runFs vn vs vh vt vr ve a b c) = some vt := (lk_ne).trans ((lk_ne).trans ((lk_ne).trans ((lk_ne).trans lk_eq)))
theorem lk_came {vn vs : V} {a b c : Int} : List.lookup ("all_came" : Str) (runFs vn vs vh vt vr ve a b c) = some (.int b) := (lk_ne).trans ((lk_ne).trans ((lk_ne).trans ((lk_ne).trans ((lk_ne).trans lk_eq))))
theorem lk_ground {vn vs : V} {a b c : Int} : List.lookup ("all_ground" : Str) (runFs vn vs vh vt vr ve a b c) = some (.int c) := (lk_ne).trans ((lk_ne).trans ((lk_ne).trans ((lk_ne).trans ((lk_ne).trans ((lk_ne).trans lk_eq)))))
theorem lk_rows {vn vs : V} {a b c : Int} : List.lookup ("rows" : Str) (runFs vn vs vh vt vr ve a b c) = some vr := (lk_ne).trans ((lk_ne).trans ((lk_ne).trans ((lk_ne).trans ((lk_ne).trans ((lk_ne).trans ((lk_ne).trans lk_eq))))))
theorem lk_elder {vn vs : V} {a b c : Int} : List.lookup ("elder" : Str) (runFs vn vs vh vt vr ve a b c) = some ve := (lk_ne).trans ((lk_ne).trans ((lk_ne).trans ((lk_ne).trans ((lk_ne).trans ((lk_ne).trans ((lk_ne).trans ((lk_ne).trans lk_eq)))))))
theorem ev_net (T : RunT K C) (hv : Rd te0 σ A v) (e : Emb A (oCore C v vh vt vr ve) g p) : Ev (tFld K te0 "net") σ F A rNet (gtL g fun s => some s.1) := fun s b s' hm F1 H c O sm ho W Q q => by
  obtain ⟨h2, rfl⟩ := gtL_some hm
  cases h2
  obtain ⟨a, dx, vn, vs, c2, rfl, r1, r2, W2, _⟩ := emb_core e ho W
  exact hv F1 H _ c O ho W _ ⟨a, C, dx, _, _, rfl, W2.hd, T.cl, T.net, lk_net, q _ F1 H c (SameR _) ho W r1⟩
theorem ev_now (T : RunT K C) (hv : Rd te0 σ A v) (e : Emb A (oCore C v vh vt vr ve) g p) : Ev (tFld K te0 "now") σ F A rState (gtL g fun s => some s.2.1) := fun s b s' hm F1 H c O sm ho W Q q => by
  obtain ⟨h2, rfl⟩ := gtL_some hm
  cases h2
  obtain ⟨a, dx, vn, vs, c2, rfl, r1, r2, W2, _⟩ := emb_core e ho W
  exact hv F1 H _ c O ho W _ ⟨a, C, dx, _, _, rfl, W2.hd, T.cl, T.now, lk_now, q _ F1 H c (SameR _) ho W r2⟩
theorem ev_gone (T : RunT K C) (hv : Rd te0 σ A v) (e : Emb A (oCore C v vh vt vr ve) g p) : Ev (tFld K te0 "many_gone") σ F A rInt (gtL g fun s => some s.2.2.1) := fun s b s' hm F1 H c O sm ho W Q q => by
  obtain ⟨h2, rfl⟩ := gtL_some hm
  cases h2
  obtain ⟨a, dx, vn, vs, c2, rfl, r1, r2, W2, _⟩ := emb_core e ho W
  exact hv F1 H _ c O ho W _ ⟨a, C, dx, _, _, rfl, W2.hd, T.cl, T.many_gone, lk_gone, q _ F1 H c (SameR _) ho W rfl⟩
theorem ev_came (T : RunT K C) (hv : Rd te0 σ A v) (e : Emb A (oCore C v vh vt vr ve) g p) : Ev (tFld K te0 "all_came") σ F A rInt (gtL g fun s => some s.2.2.2.1) := fun s b s' hm F1 H c O sm ho W Q q => by
  obtain ⟨h2, rfl⟩ := gtL_some hm
  cases h2
  obtain ⟨a, dx, vn, vs, c2, rfl, r1, r2, W2, _⟩ := emb_core e ho W
  exact hv F1 H _ c O ho W _ ⟨a, C, dx, _, _, rfl, W2.hd, T.cl, T.all_came, lk_came, q _ F1 H c (SameR _) ho W rfl⟩
theorem ev_ground (T : RunT K C) (hv : Rd te0 σ A v) (e : Emb A (oCore C v vh vt vr ve) g p) : Ev (tFld K te0 "all_ground") σ F A rInt (gtL g fun s => some s.2.2.2.2) := fun s b s' hm F1 H c O sm ho W Q q => by
  obtain ⟨h2, rfl⟩ := gtL_some hm
  cases h2
  obtain ⟨a, dx, vn, vs, c2, rfl, r1, r2, W2, _⟩ := emb_core e ho W
  exact hv F1 H _ c O ho W _ ⟨a, C, dx, _, _, rfl, W2.hd, T.cl, T.all_ground, lk_ground, q _ F1 H c (SameR _) ho W rfl⟩
theorem rd_hand (T : RunT K C) (hv : Rd te0 σ A v) (e : Emb A (oCore C v vh vt vr ve) g p) : Rd (tFld K te0 "hand") σ A vh := fun F1 H s c O ho W Q q => by
  obtain ⟨a, dx, vn, vs, c2, rfl, r1, r2, W2, _⟩ := emb_core e ho W
  exact hv F1 H s c O ho W _ ⟨a, C, dx, _, _, rfl, W2.hd, T.cl, T.hand, lk_hand, q⟩
theorem rd_tips (T : RunT K C) (hv : Rd te0 σ A v) (e : Emb A (oCore C v vh vt vr ve) g p) : Rd (tFld K te0 "all_tips") σ A vt := fun F1 H s c O ho W Q q => by
  obtain ⟨a, dx, vn, vs, c2, rfl, r1, r2, W2, _⟩ := emb_core e ho W
  exact hv F1 H s c O ho W _ ⟨a, C, dx, _, _, rfl, W2.hd, T.cl, T.all_tips, lk_tips, q⟩
theorem rd_rows (T : RunT K C) (hv : Rd te0 σ A v) (e : Emb A (oCore C v vh vt vr ve) g p) : Rd (tFld K te0 "rows") σ A vr := fun F1 H s c O ho W Q q => by
  obtain ⟨a, dx, vn, vs, c2, rfl, r1, r2, W2, _⟩ := emb_core e ho W
  exact hv F1 H s c O ho W _ ⟨a, C, dx, _, _, rfl, W2.hd, T.cl, T.rows, lk_rows, q⟩
theorem rd_elder (T : RunT K C) (hv : Rd te0 σ A v) (e : Emb A (oCore C v vh vt vr ve) g p) : Rd (tFld K te0 "elder") σ A ve := fun F1 H s c O ho W Q q => by
  obtain ⟨a, dx, vn, vs, c2, rfl, r1, r2, W2, _⟩ := emb_core e ho W
  exact hv F1 H s c O ho W _ ⟨a, C, dx, _, _, rfl, W2.hd, T.cl, T.elder, lk_elder, q⟩
end
end T

/-! T12: a Run's writes, and its methods' bodies. -/
namespace T
open PySem L2
section
variable {S S' T' α β γ Ω ι : Type} {R : Rl α} {K : PySem.W.Frag} {C : Addr} {σ : L2.St} {F : Hp} {A : Ow S} {te te0 ti ta : TE} {u : TS} {P : Post Ω} {v w vh vt vr ve : V} {i j k : Nat} {g : S → RCore} {p : S → RCore → S}
theorem lx {vn vs : V} {a b c : Int} : (runFs vn vs vh vt vr ve a b c).length < 1000 := by show 9 < 1000; decide
theorem pt_now {vn vs w : V} {a b c : Int} : putF "now" w (runFs vn vs vh vt vr ve a b c) = runFs vn w vh vt vr ve a b c := (putF_past (by decide +kernel)).trans (congrArg _ putF_hit)
theorem pt_hand {vn vs w : V} {a b c : Int} : putF "hand" w (runFs vn vs vh vt vr ve a b c) = runFs vn vs w vt vr ve a b c := by
  unfold runFs
  rw [putF_past (by decide +kernel), putF_past (by decide +kernel), putF_hit]
theorem pt_gone {vn vs : V} {a b c d : Int} : putF "many_gone" (.int d) (runFs vn vs vh vt vr ve a b c) = runFs vn vs vh vt vr ve d b c := by
  unfold runFs
  rw [putF_past (by decide +kernel), putF_past (by decide +kernel), putF_past (by decide +kernel), putF_hit]
theorem pt_came {vn vs : V} {a b c d : Int} : putF "all_came" (.int d) (runFs vn vs vh vt vr ve a b c) = runFs vn vs vh vt vr ve a d c := by
  unfold runFs
  rw [putF_past (by decide +kernel), putF_past (by decide +kernel), putF_past (by decide +kernel), putF_past (by decide +kernel), putF_past (by decide +kernel), putF_hit]
theorem pt_ground {vn vs : V} {a b c d : Int} : putF "all_ground" (.int d) (runFs vn vs vh vt vr ve a b c) = runFs vn vs vh vt vr ve a b d := by
  unfold runFs
  rw [putF_past (by decide +kernel), putF_past (by decide +kernel), putF_past (by decide +kernel), putF_past (by decide +kernel), putF_past (by decide +kernel), putF_past (by decide +kernel), putF_hit]
/-- self.f += e, of the three sums -/
structure SumF (K : PySem.W.Frag) (C : Addr) (f : Str) (get : RCore → Int) (put : RCore → Int → RCore) : Prop where
  no : NoAttr K C f
  lk : ∀ {vn vs vh vt vr ve : V} {t : RCore}, List.lookup f (runFs vn vs vh vt vr ve t.2.2.1 t.2.2.2.1 t.2.2.2.2) = some (.int (get t))
  pt : ∀ {vn vs vh vt vr ve : V} {t : RCore} {d : Int}, putF f (.int d) (runFs vn vs vh vt vr ve t.2.2.1 t.2.2.2.1 t.2.2.2.2) = runFs vn vs vh vt vr ve (put t d).2.2.1 (put t d).2.2.2.1 (put t d).2.2.2.2
  s1 : ∀ t d, (put t d).1 = t.1
  s2 : ∀ t d, (put t d).2.1 = t.2.1
theorem sf_gone (T : RunT K C) : SumF K C "many_gone" (fun t => t.2.2.1) (fun t d => (t.1, t.2.1, d, t.2.2.2.1, t.2.2.2.2)) := ⟨T.many_gone, lk_gone, pt_gone, fun _ _ => rfl, fun _ _ => rfl⟩
theorem sf_came (T : RunT K C) : SumF K C "all_came" (fun t => t.2.2.2.1) (fun t d => (t.1, t.2.1, t.2.2.1, d, t.2.2.2.2)) := ⟨T.all_came, lk_came, pt_came, fun _ _ => rfl, fun _ _ => rfl⟩
theorem sf_ground (T : RunT K C) : SumF K C "all_ground" (fun t => t.2.2.2.2) (fun t d => (t.1, t.2.1, t.2.2.1, t.2.2.2.1, d)) := ⟨T.all_ground, lk_ground, pt_ground, fun _ _ => rfl, fun _ _ => rfl⟩
theorem b_sum {f : Str} {get : RCore → Int} {put : RCore → Int → RCore} {m : M S Int} {h : S → Option Ω} (T : RunT K C) (sf : SumF K C f get put) (hv : Rd te0 σ A v) (e : Emb A (oCore C v vh vt vr ve) g p) (hd : ∀ s y s1, m s = some (y, s1) → get (g s1) = get (g s)) (he : Ev te σ F A rInt m) (k : B u σ F A P h) :
    B (tSeq (sFldAug K te0 te rAdd f) u) σ F A P (bnd m fun y => bnd (upL g p fun t => some (put t (get t + y))) fun _ => h) := fun s w hm F1 H c O sm ho W D q => by
  obtain ⟨y, s1, h1, hm⟩ := bnd_some hm
  obtain ⟨_, s2, h2, hm⟩ := bnd_some hm
  obtain ⟨t, h2a, rfl⟩ := upL_some h2
  cases h2a
  refine hv F1 H s c O ho W _ ?_
  obtain ⟨a, dx, vn, vs, c2, rfl, r1, r2, W2, _⟩ := emb_core e ho W
  refine ⟨a, C, dx, _, _, rfl, W2.hd, T.cl, sf.no, sf.lk, he s y s1 h1 F1 H c O sm ho W _ fun z F3 H3 c3 sm3 o3 W3 r3 => ?_⟩
  obtain ⟨a', dx', vn', vs', c4, e', r1', r2', W4, kk⟩ := emb_core e o3 W3
  cases e'
  refine ⟨_, y, rfl, r3, dx', _, W4.hd, lx, ?_⟩
  rw [← hd s y s1 h1, sf.pt]
  have W5 := W4.set (o' := .ins C dx' (runFs vn' vs' vh vt vr ve (put (g s1) (get (g s1) + y)).2.2.1 (put (g s1) (get (g s1) + y)).2.2.2.1 (put (g s1) (get (g s1) + y)).2.2.2.2))
  obtain ⟨c5, o5, W6⟩ := kk F3 vn' vs' (put (g s1) (get (g s1) + y)) (SameR _) (by rw [sf.s1]; exact r1') (by rw [sf.s2]; exact r2') _ W5
  exact k _ w hm F3 _ c5 O (sm.trans sm3) o5 W6 D (P.mono sm3 q)
/-- self.now, x, y, z = e -/
abbrev rTick := rTh (arC rState (arC (rTup rInt) (arC rInt (arOne rInt))))
theorem b_unpNow {i1 i2 i3 : Nat} {m : M S (State × List Int × Int × Int)} {h : State × List Int × Int × Int → S → Option Ω} (T : RunT K C) (h0 : σ[j]? = some (some v)) (e : Emb A (oCore C v vh vt vr ve) g p) (he : Ev te σ F A rTick m)
    (k : ∀ v1 v2 v3 x F', Same F F' → (rTup rInt).r F' v1 x.2.1 → rInt.r F' v2 x.2.2.1 → rInt.r F' v3 x.2.2.2 → B u (((σ.set i1 (some v1)).set i2 (some v2)).set i3 (some v3)) F' A P (h x)) :
    B (tSeq (tAsg te (gTup K 4 (gCons (gFld K (tVar j) "now") (gCons (gName i1) (gCons (gName i2) (gCons (gName i3) gNil)))))) u) σ F A P (bnd m fun x => bnd (upL g p fun t => some (t.1, x.1, t.2.2)) fun _ => h x) := fun s w hm F1 H c O sm ho W D q => by
  obtain ⟨x, s1, h1, hm⟩ := bnd_some hm
  obtain ⟨_, s2, h2, hm⟩ := bnd_some hm
  obtain ⟨t, h2a, rfl⟩ := upL_some h2
  cases h2a
  refine he s x s1 h1 F1 H c O sm ho W _ fun z F2 H2 c2 sm2 o2 W2 ⟨a, vs, ez, hp, v0, _, e1, r0, v1, _, e2, r1, v2, _, e3, r2, v3, e4, r3⟩ => ?_
  subst e4 e3 e2 e1
  refine ⟨a, _, ez, SqT.of (W2.sub _ _ hp), rfl, v0, _, rfl, ?_⟩
  obtain ⟨b, dx, vn, vs, c3, rfl, q1, q2, W3, kk⟩ := emb_core e o2 W2
  refine ⟨_, h0, b, C, dx, _, rfl, W3.hd, T.cl, T.now, lx, ?_⟩
  rw [pt_now]
  refine ⟨v1, _, rfl, v2, _, rfl, v3, _, rfl, rfl, ?_⟩
  have W4 := W3.set (o' := .ins C dx (runFs vn v0 vh vt vr ve (g s1).2.2.1 (g s1).2.2.2.1 (g s1).2.2.2.2))
  obtain ⟨c5, o5, W5⟩ := kk F2 vn v0 ((g s1).1, x.1, (g s1).2.2) (SameR _) q1 r0 _ W4
  exact k v1 v2 v3 x F2 (sm.trans sm2) r1 r2 r3 _ w hm F2 _ c5 O (SameR _) o5 W5 D (P.mono sm2 q)
/-- a part whose address may be bound anew -/
structure EmbF {T : Type} (A : V → Ow S) (B : V → Ow T) (g : S → T) (p : S → T → S) : Prop where
  split : ∀ {F : Hp} {s : S} {c : Ch} {i : V}, (A i).o F s c → ∃ c1 c2, c.Perm (c1 ++ c2) ∧ (B i).o F (g s) c1 ∧ ∀ i' F' t c1', Same F F' → (B i').o F' t c1' → ∃ c', (A i').o F' (p s t) c' ∧ c'.Perm (c1' ++ c2)
theorem embF_id {T : Type} {A : V → Ow T} : EmbF A A (fun s => s) (fun _ t => t) := ⟨fun {F s c i} h => ⟨c, [], by simp, h, fun i' F' t c1' _ h' => ⟨c1', h', by simp⟩⟩⟩
theorem embF_l {U : Type} {A : V → Ow S} {B : Ow T'} {C : V → Ow U} {g : S → U} {p : S → U → S} (e : EmbF A C g p) : EmbF (fun i => star (A i) B) C (fun s => g s.1) (fun s t => (p s.1 t, s.2)) := ⟨fun {F s c i} ⟨ca, cb, ec, ha, hb⟩ => by
  obtain ⟨c1, c2, pm, h1, k⟩ := e.split ha
  refine ⟨c1, c2 ++ cb, by rw [ec, ← List.append_assoc]; exact pm.append_right cb, h1, fun i' F' t c1' sm h' => ?_⟩
  obtain ⟨c', h2, pm2⟩ := k i' F' t c1' sm h'
  exact ⟨c' ++ cb, ⟨c', cb, rfl, h2, B.mono sm hb⟩, by rw [← List.append_assoc]; exact pm2.append_right cb⟩⟩
/-- self.hand = a new list -/
theorem b_hand {A : V → Ow S} {g : S → RCore × List Int} {p : S → RCore × List Int → S} {m : M S (List Int)} {h : S → Option Ω} (T : RunT K C) (h0 : σ[j]? = some (some v)) (e : EmbF A (fun i => star (oCore C v i vt vr ve) (oLst rInt i)) g p) (he : EvO te σ F (A vh) (oLst rInt) m) (k : ∀ vh' F', Same F F' → B u σ F' (A vh') P h) :
    B (tSeq (sFld K (tVar j) te "hand") u) σ F (A vh) P (bnd m fun x => bnd (upL g p fun t => some (t.1, x)) fun _ => h) := fun s w hm F1 H c O sm ho W D q => by
  obtain ⟨x, s1, h1, hm⟩ := bnd_some hm
  obtain ⟨_, s2, h2, hm⟩ := bnd_some hm
  obtain ⟨t, h2a, rfl⟩ := upL_some h2
  cases h2a
  refine he s x s1 h1 F1 H c O sm ho W _ fun z F2 H2 c2 cb sm2 o2 ob W2 => ⟨_, h0, ?_⟩
  obtain ⟨c3, c4, pm, ⟨c5, c6, rfl, ⟨a, dx, vn, vs, e1, rfl, r1, r2⟩, l2, vs2, e2, rfl, rp2⟩, kk⟩ := e.split o2
  obtain ⟨l, ws, rfl, rfl, rp⟩ := ob
  subst e1
  have W3 : Wd F2 H2 ((a, .ins C dx (runFs vn vs vh vt vr ve (g s1).1.2.2.1 (g s1).1.2.2.2.1 (g s1).1.2.2.2.2)) :: ((l2, .lst vs2) :: (l, .lst ws) :: (c4 ++ O))) := by
    refine W2.perm ?_
    have p1 : ([(l, HO.lst ws)] ++ (c2 ++ O)).Perm ([(l, HO.lst ws)] ++ ((([(a, HO.ins C dx (runFs vn vs vh vt vr ve (g s1).1.2.2.1 (g s1).1.2.2.2.1 (g s1).1.2.2.2.2))] ++ [(l2, HO.lst vs2)]) ++ c4) ++ O)) := (pm.append_right O).append_left _
    refine p1.trans ?_
    simp only [List.append_assoc, List.cons_append, List.nil_append]
    exact (List.Perm.swap _ _ _).trans (List.Perm.cons _ (List.Perm.swap _ _ _))
  refine ⟨a, C, dx, _, rfl, W3.hd, T.cl, T.hand, lx, ?_⟩
  rw [pt_hand]
  have W4 := (W3.set (o' := .ins C dx (runFs vn vs (.ref l) vt vr ve (g s1).1.2.2.1 (g s1).1.2.2.2.1 (g s1).1.2.2.2.2))).sublist (List.Sublist.cons_cons _ (List.Sublist.cons _ (List.Sublist.refl _)))
  obtain ⟨c7, o7, pm7⟩ := kk (.ref l) F2 ((g s1).1, x) _ (SameR _) ⟨_, _, rfl, ⟨a, dx, vn, vs, rfl, rfl, r1, r2⟩, l, ws, rfl, rfl, rp⟩
  refine k (.ref l) F2 (sm.trans sm2) _ w hm F2 _ c7 O (SameR _) o7 (W4.perm ?_) D (P.mono sm2 q)
  exact ((pm7.append_right O).trans (by simp)).symm
/-! the list of lists -/
theorem emb_ll {g : S → List (List α)} {p : S → List (List α) → S} {F H : Hp} {s : S} {c O : Ch} (e : Emb A (oLL R v) g p) (ho : A.o F s c) (W : Wd F H (c ++ O)) : ∃ l, ∃ ts : List (Addr × List V), ∃ c2, v = .ref l ∧ Paired (fun (q : Addr × List V) xs => Paired (R.r F) q.2 xs) ts (g s) ∧ Wd F H ((l, .lst (ts.map fun q => V.ref q.1)) :: (ts.map (fun q => (q.1, HO.lst q.2)) ++ (c2 ++ O))) ∧
    ∀ F' (ts' : List (Addr × List V)) xs, Same F F' → Paired (fun (q : Addr × List V) xs => Paired (R.r F') q.2 xs) ts' xs → ∀ H', Wd F' H' ((l, .lst (ts'.map fun q => V.ref q.1)) :: (ts'.map (fun q => (q.1, HO.lst q.2)) ++ (c2 ++ O))) → ∃ c', A.o F' (p s xs) c' ∧ Wd F' H' (c' ++ O) := by
  obtain ⟨c1, c2, pm, ⟨l, ts, e1, rfl, rp⟩, k⟩ := e.split ho
  refine ⟨l, ts, c2, e1, rp, by simpa using W.perm (pm.append_right O), fun F' ts' xs s' rp' H' W' => ?_⟩
  obtain ⟨c', o', pm'⟩ := k F' xs _ s' ⟨l, ts', e1, rfl, rp'⟩
  exact ⟨c', o', W'.perm (by simpa using (pm'.append_right O).symm)⟩
theorem wd_mem {F H : Hp} {O : Ch} {a : Addr} {o : HO} (W : Wd F H O) (h : (a, o) ∈ O) : H a = some o := (W.own (a, o) h).1
theorem paired_len2 {X Y : Type} {Q : X → Y → Prop} {xs : List X} {ys : List Y} (h : Paired Q xs ys) : xs.length = ys.length := by
  induction h with
  | nil => rfl
  | cons _ _ ih => simp [ih]
theorem pget_ll {X Y : Type} {Q : X → Y → Prop} {xs : List X} {ys : List Y} (h : Paired Q xs ys) : ∀ {n : Nat} {y : Y}, ys[n]? = some y → ∃ x, xs[n]? = some x ∧ Q x y := by
  induction h with
  | nil => intro n y e; simp at e
  | cons r t ih =>
    intro n y e
    cases n with
    | zero => simp at e; subst e; exact ⟨_, by simp, r⟩
    | succ n => simp at e; obtain ⟨x, hx, rx⟩ := ih e; exact ⟨x, by simpa using hx, rx⟩
theorem pset_ll {X Y : Type} {Q : X → Y → Prop} {xs : List X} {ys : List Y} {x : X} {y : Y} (h : Paired Q xs ys) (r : Q x y) : ∀ (i : Nat), Paired Q (xs.set i x) (ys.set i y) := by
  induction h with
  | nil => exact fun _ => .nil
  | cons a t ih => intro i; cases i with
    | zero => exact .cons r t
    | succ i => exact .cons a (ih i)
/-- x[i] of a list of lists, as a list: copied -/
theorem eo_copyLL {g : S → List (List α)} {p : S → List (List α) → S} {mi : M S Int} (hv : Rd te0 σ A v) (e : Emb A (oLL R v) g p) (hi : Ev ti σ F A rInt mi) :
    EvO (tCB (rListOf K) (tCons (tOp (rIxL K) te0 ti) tNil)) σ F A (oLst R) (bnd mi fun i => gtL g fun xs => atI xs i) := fun s b s' hm F1 H c O sm ho W Q q => by
  obtain ⟨i, s1, h1, hm⟩ := bnd_some hm
  obtain ⟨h2, rfl⟩ := gtL_some hm
  refine hv F1 H s c O ho W _ (hi _ i _ h1 F1 H c O sm ho W _ fun y F2 H2 c2 s2 o2 W2 r2 => ?_)
  obtain ⟨l, ts, c3, rfl, rp, W3, kk⟩ := emb_ll e o2 W2
  obtain ⟨n, hn, hx⟩ := Option.bind_eq_some_iff.mp h2
  obtain ⟨t, ht, rt⟩ := pget_ll rp hx
  have hat : atI (ts.map fun q => V.ref q.1) i = some (.ref t.1) := by
    unfold atI
    rw [List.length_map, paired_len2 rp, hn]
    simp [ht]
  refine ⟨l, _, i, .ref t.1, rfl, r2, SqL.of W3.hd, hat, t.1, t.2, rfl, .inl (SqL.of (wd_mem W3 (List.mem_cons_of_mem _ (List.mem_append_left _ (List.mem_map.mpr ⟨t, List.mem_of_getElem? ht, rfl⟩))))), fun d nd => ?_⟩
  exact q (.ref d) F2 _ c2 [(d, .lst t.2)] s2 o2 ⟨d, t.2, rfl, rfl, rt⟩ (W2.newO nd)
end
end T

/-! T13: lists of lists written; a Run made. -/
namespace T
open PySem L2
section
variable {S S' T' α β γ Ω ι : Type} {R : Rl α} {R' : Rl β} {K : PySem.W.Frag} {C : Addr} {σ : L2.St} {F : Hp} {A : Ow S} {te te0 ti ta : TE} {u : TS} {P : Post Ω} {v w vh vt vr ve : V} {i j k : Nat} {g : S → RCore} {p : S → RCore → S}
/-- read, and nothing else -/
def Ev0 (te : TE) (σ : L2.St) (A : Ow S) (R : Rl β) (f : S → Option β) : Prop := ∀ s b, f s = some b → ∀ F1 H c O, A.o F1 s c → Wd F1 H (c ++ O) → ∀ Q : VK, (∀ v, R.r F1 v b → Q v H) → te σ H Q
theorem ev0_gone (T : RunT K C) (hv : Rd te0 σ A v) (e : Emb A (oCore C v vh vt vr ve) g p) : Ev0 (tFld K te0 "many_gone") σ A rInt (fun s => some (g s).2.2.1) := fun s b hm F1 H c O ho W Q q => by
  cases hm
  obtain ⟨a, dx, vn, vs, c2, rfl, r1, r2, W2, _⟩ := emb_core e ho W
  exact hv F1 H s c O ho W _ ⟨a, C, dx, _, _, rfl, W2.hd, T.cl, T.many_gone, lk_gone, q _ rfl⟩
/-- x[i].append(e), x a list of lists -/
theorem b_appLL {g : S → List (List α)} {p : S → List (List α) → S} {mi : M S Int} {fx : S → Option α} {f : S → Option Ω} (hv : Rd te0 σ A v) (e : Emb A (oLL R v) g p) (hi : Ev ti σ F A rInt mi) (hx : Ev0 te σ A R fx) (k : B u σ F A P f) :
    B (tSeq (tDrop (tBM K "list" rAppend (tOp (rIxL K) te0 ti) (tCons te tNil))) u) σ F A P (bnd mi fun i => bnd (gtL (fun s => s) fx) fun x => bnd (upL g p fun xs => (atI xs i).bind fun ys => (app ys x).bind fun zs => setI xs i zs) fun _ => f) := fun s w hm F1 H c O sm ho W D q => by
  obtain ⟨i, s1, h1, hm⟩ := bnd_some hm
  obtain ⟨x, s2, h2, hm2⟩ := bnd_some hm
  obtain ⟨h2a, rfl⟩ := gtL_some h2
  obtain ⟨_, s3, h3, hm3⟩ := bnd_some hm2
  obtain ⟨xs, h3a, rfl⟩ := upL_some h3
  obtain ⟨ys, hy, h4⟩ := Option.bind_eq_some_iff.mp h3a
  obtain ⟨zs, hz, h5⟩ := Option.bind_eq_some_iff.mp h4
  obtain ⟨rfl, hl⟩ := app_some hz
  obtain ⟨n, hn, rfl⟩ := setI_some h5
  refine hv F1 H s c O ho W _ (hi s i _ h1 F1 H c O sm ho W _ fun y F2 H2 c2 sm2 o2 W2 r2 => ?_)
  obtain ⟨l, ts, c3, rfl, rp, W3, kk⟩ := emb_ll e o2 W2
  obtain ⟨n', hn', hxx⟩ := Option.bind_eq_some_iff.mp hy
  rw [hn] at hn'; cases hn'
  obtain ⟨t, ht, rt⟩ := pget_ll rp hxx
  have hat : atI (ts.map fun q => V.ref q.1) i = some (.ref t.1) := by
    unfold atI
    rw [List.length_map, paired_len2 rp, hn]
    simp [ht]
  have hmem : (t.1, HO.lst t.2) ∈ ts.map (fun q => (q.1, HO.lst q.2)) := List.mem_map.mpr ⟨t, List.mem_of_getElem? ht, rfl⟩
  have hH : H2 t.1 = some (.lst t.2) := wd_mem W3 (List.mem_cons_of_mem _ (List.mem_append_left _ hmem))
  refine ⟨l, _, i, .ref t.1, rfl, r2, SqL.of W3.hd, hat, Or.inl ⟨rfl, t.2, SqL.of hH⟩, ?_⟩
  refine hx _ x h2a F2 H2 c2 O o2 W2 _ fun z rz => ⟨t.1, t.2, z, rfl, rfl, hH, by rw [paired_len rt]; exact lim_le hl, ?_⟩
  have hnl : n < ts.length := (List.getElem?_eq_some_iff.mp ht).1
  have htn : ts[n] = t := (List.getElem?_eq_some_iff.mp ht).2
  -- the inner list in front
  have spl : ts.map (fun q => (q.1, HO.lst q.2)) = (ts.take n).map (fun q => (q.1, HO.lst q.2)) ++ (t.1, HO.lst t.2) :: (ts.drop (n + 1)).map (fun q => (q.1, HO.lst q.2)) := by
    conv => lhs; rw [← List.take_append_drop n ts, List.drop_eq_getElem_cons hnl, htn]
    simp
  have spl2 : (ts.set n (t.1, t.2 ++ [z])).map (fun q => (q.1, HO.lst q.2)) = (ts.take n).map (fun q => (q.1, HO.lst q.2)) ++ (t.1, HO.lst (t.2 ++ [z])) :: (ts.drop (n + 1)).map (fun q => (q.1, HO.lst q.2)) := by
    rw [List.set_eq_take_append_cons_drop, if_pos hnl]
    simp
  have hrf : (ts.set n (t.1, t.2 ++ [z])).map (fun q => V.ref q.1) = ts.map fun q => V.ref q.1 := by
    rw [List.map_set]
    show (ts.map fun q => V.ref q.1).set n (V.ref t.1) = _
    refine List.ext_getElem (by simp) fun m h1 h2 => ?_
    rw [List.getElem_set]
    split
    · rename_i e; subst e; simp [htn]
    · rfl
  have W4 : Wd F2 H2 ((t.1, .lst t.2) :: ((l, .lst (ts.map fun q => V.ref q.1)) :: ((ts.take n).map (fun q => (q.1, HO.lst q.2)) ++ (ts.drop (n + 1)).map (fun q => (q.1, HO.lst q.2)) ++ (c3 ++ O)))) := by
    refine W3.perm ?_
    rw [spl]
    refine (List.Perm.cons _ ((List.perm_middle).append_right _)).trans ?_
    exact (List.Perm.swap _ _ _).trans (by simp)
  have W5 := W4.set (o' := .lst (t.2 ++ [z]))
  obtain ⟨c6, o6, W6⟩ := kk F2 (ts.set n (t.1, t.2 ++ [z])) _ (SameR _) (pset_ll rp (y := ys ++ [x]) (rt.snoc rz) n) (upd H2 t.1 (.lst (t.2 ++ [z]))) (W5.perm (by
    rw [hrf, spl2]
    refine ((List.Perm.cons _ ((List.perm_middle).append_right _)).trans ?_).symm
    exact (List.Perm.swap _ _ _).trans (by simp)))
  exact k _ w hm3 F2 _ c6 O (sm.trans sm2) o6 W6 D (P.mono sm2 q)
theorem paired_lens {F : Hp} {ts : List (Addr × List V)} {xs : List (List Int)} (h : Paired (fun (q : Addr × List V) xs => Paired (rInt.r F) q.2 xs) ts xs) : Paired (rInt.r F) (ts.map fun q => V.int (q.2.length : Int)) (xs.map fun ys => (ys.length : Int)) := by
  induction h with
  | nil => exact .nil
  | cons r t ih => exact .cons (by show V.int _ = V.int _; rw [paired_len r]) ih
theorem ll_at {g : S → List (List α)} {p : S → List (List α) → S} {F : Hp} {s : S} {c : Ch} (e : Emb A (oLL R v) g p) (ho : A.o F s c) : ∃ l, ∃ ts : List (Addr × List V), v = .ref l ∧ Paired (fun (q : Addr × List V) xs => Paired (R.r F) q.2 xs) ts (g s) ∧ (l, HO.lst (ts.map fun q => V.ref q.1)) ∈ c ∧ ∀ t ∈ ts, (t.1, HO.lst t.2) ∈ c := by
  obtain ⟨c1, c2, pm, ⟨l, ts, e1, rfl, rp⟩, k⟩ := e.split ho
  exact ⟨l, ts, e1, rp, pm.symm.subset (List.mem_append_left _ List.mem_cons_self), fun t ht => pm.symm.subset (List.mem_append_left _ (List.mem_cons_of_mem _ (List.mem_map.mpr ⟨t, ht, rfl⟩)))⟩
/-- [len(x) for x in xs], xs a list of lists -/
theorem eo_lens {g : S → List (List Int)} {p : S → List (List Int) → S} {n : Nat} (hv : Rd te0 σ A v) (e : Emb A (oLL rInt v) g p) (hn : n < σ.length) (hw : ∀ x, wipe ((wipe σ [n]).set n (some x)) [n] = wipe σ [n]) :
    EvO (tLc (iList K te0) (gName n) tYes (tCB (rLen K) (tCons (tVar n) tNil)) [n]) σ F A (oLst rInt) (bnd (gtL g fun xs => chk xs) fun xs => ret (xs.map fun ys => (ys.length : Int))) := fun s b s' hm F1 H c O sm ho W Q q => by
  obtain ⟨xs, s1, h1, hm⟩ := bnd_some hm
  obtain ⟨h1a, rfl⟩ := gtL_some h1
  obtain ⟨rfl, hlen⟩ := chk_some h1a
  obtain ⟨rfl, rfl⟩ := ret_some hm
  refine hv F1 H _ c O ho W _ ?_
  obtain ⟨l, ts, rfl, rp, hm0, hm1⟩ := ll_at e ho
  have hl := paired_len2 rp
  have hml : ∀ {H' : Hp} {o : HO} {a : Addr} {D : Addr} {od : HO}, Wd F1 H' ((D, od) :: (c ++ O)) → (a, o) ∈ c → H' a = some o := fun W' hm => wd_mem W' (List.mem_cons_of_mem _ (List.mem_append_left _ hm))
  refine ⟨l, rfl, ⟨_, SqL.of (wd_mem W (List.mem_append_left _ hm0))⟩, fun D nD => ?_⟩
  refine lc_list (K := K) (a := l) (xs := ts.map fun q => V.ref q.1) (fun i H' => Wd F1 H' ((D, .lst ((ts.take i).map fun q => V.int (q.2.length : Int))) :: (c ++ O))) (W.newO nD) ?_ ?_ ?_
  · intro i H' _ W'
    exact SqL.of (hml W' hm0)
  · intro i x H' hx W'
    rw [List.getElem?_map] at hx
    obtain ⟨t, ht, rfl⟩ := Option.map_eq_some_iff.mp hx
    have hH' : H' t.1 = some (.lst t.2) := hml W' (hm1 t (List.mem_of_getElem? ht))
    have hts : ts.take (i + 1) = ts.take i ++ [t] := by rw [List.take_succ, ht]; rfl
    have hlt : i < ts.length := (List.getElem?_eq_some_iff.mp ht).1
    refine ⟨hw _, ?_⟩
    refine iteT (B := Wd F1 H' ((D, .lst ((ts.take (i + 1)).map fun q => V.int (q.2.length : Int))) :: (c ++ O))) ?_
    refine ⟨.ref t.1, by rw [List.getElem?_set_self (by rw [wipe_length]; exact hn)], t.1, t.2, rfl, .inl (SqL.of hH'), _, W'.hd, ?_, ?_⟩
    · rw [List.length_map, List.length_take]
      have : ts.length < lim := by rw [hl]; exact hlen
      exact lim_le (by omega)
    · rw [hts, List.map_append]
      exact W'.set
  · intro H' W'
    rw [List.length_map, List.take_length] at W'
    refine q (.ref D) F1 H' c [(D, _)] (SameR _) ho ⟨D, _, rfl, rfl, ?_⟩ W'
    exact paired_lens rp
end
end T

/-! T14: a Run made; its methods. -/
namespace T
open PySem L2
section
variable {S S' T' α β γ Ω ι : Type} {R : Rl α} {R' : Rl β} {K : PySem.W.Frag} {C : Addr} {σ : L2.St} {F : Hp} {A : Ow S} {te te0 ti ta : TE} {u : TS} {P : Post Ω} {v w vh vt vr ve : V} {i j k : Nat} {g : S → RCore} {p : S → RCore → S}
/-- [[] for x in xs] -/
theorem eo_nils {wi : TI} {ml : M S (List α)} {n : Nat} (hi : EvI wi σ F A R ml) (hw : ∀ x, wipe ((wipe σ [n]).set n (some x)) [n] = wipe σ [n]) :
    EvO (tLc wi (gName n) tYes (tLst tNil) [n]) σ F A (oLL R') (bnd ml fun xs => bnd (lft (chk xs)) fun xs => ret (xs.map fun _ => ([] : List β))) := fun s ys s' hm F1 H c O sm ho W Q q => by
  obtain ⟨xs0, s1, h1, hm⟩ := bnd_some hm
  obtain ⟨xs, s1', h2, hm2⟩ := bnd_some hm
  obtain ⟨h2', rfl⟩ := lft_some h2
  obtain ⟨rfl, hlen⟩ := chk_some h2'
  obtain ⟨rfl, rfl⟩ := ret_some hm2
  refine hi s _ _ h1 F1 H c O sm ho W _ fun J F2 H2 c2 sm2 o2 W2 ⟨G, Y, wk, hG, hY⟩ D hD => ?_
  refine lc_it wk (fun i H3 => ∃ F3, ∃ ts : List (Addr × List V), Same F2 F3 ∧ Wd F3 H3 ((D, .lst (ts.map fun q => V.ref q.1)) :: (ts.map (fun q => (q.1, HO.lst q.2)) ++ (c2 ++ O))) ∧ ts.length = i ∧ ∀ t ∈ ts, t.2 = []) ?_ ?_ ?_ ?_
  · exact ⟨F2, [], SameR _, W2.newO hD, rfl, fun _ h => nomatch h⟩
  · rintro i H3 _ ⟨F3, ts, s3, W3, _⟩
    exact hG F3 H3 s3 W3.sub
  · rintro i x H3 H4 hlt ⟨F3, ts, s3, W3, hl, hts⟩ y
    obtain ⟨F4, s4, W4, a, ha, ra⟩ := hY i H3 x H4 hlt y F3 _ s3 W3
    refine ⟨hw _, ?_⟩
    refine iteT (B := ∃ F3, ∃ ts : List (Addr × List V), Same F2 F3 ∧ Wd F3 H4 ((D, .lst (ts.map fun q => V.ref q.1)) :: (ts.map (fun q => (q.1, HO.lst q.2)) ++ (c2 ++ O))) ∧ ts.length = i + 1 ∧ ∀ t ∈ ts, t.2 = []) ?_
    refine ⟨by show 0 ≤ sizeLine; decide, fun p np => ?_⟩
    have W5 := W4.newO (o := .lst []) np
    refine ⟨_, (W5.tl).hd, ?_, F4, ts ++ [(p, [])], s3.trans s4, ?_, by simp [hl], ?_⟩
    · rw [List.length_map, hl]; exact lim_le (by omega)
    · have W6 := (W5.perm (List.Perm.swap _ _ _)).set (o' := .lst (ts.map (fun q => V.ref q.1) ++ [.ref p]))
      refine (W6.perm ?_)
      rw [List.map_append, List.map_append]
      refine List.Perm.cons _ ?_
      show ((p, HO.lst []) :: (ts.map (fun q => (q.1, HO.lst q.2)) ++ (c2 ++ O))).Perm ((ts.map (fun q => (q.1, HO.lst q.2)) ++ [(p, HO.lst [])]) ++ (c2 ++ O))
      rw [List.append_assoc]
      exact (List.perm_middle (l₁ := ts.map (fun q => (q.1, HO.lst q.2)))).symm
    · intro t ht
      rcases List.mem_append.mp ht with ht | ht
      · exact hts t ht
      · rw [List.mem_singleton.mp ht]
  · rintro H3 ⟨F3, ts, s3, W3, hl, hts⟩
    refine q (.ref D) F3 H3 c2 (_ :: ts.map (fun q => (q.1, HO.lst q.2))) (sm2.trans s3) (A.mono s3 o2) ⟨D, ts, rfl, rfl, ?_⟩ (by simpa using W3)
    have go : ∀ (ts : List (Addr × List V)) (xs : List α), ts.length = xs.length → (∀ t ∈ ts, t.2 = []) → Paired (fun (q : Addr × List V) zs => Paired (R'.r F3) q.2 zs) ts (xs.map fun _ => ([] : List β)) := by
      intro ts
      induction ts with
      | nil => intro xs h _; cases xs with
        | nil => exact .nil
        | cons _ _ => simp at h
      | cons t ts ih =>
        intro xs h h2
        cases xs with
        | nil => simp at h
        | cons x xs => exact .cons (by rw [h2 t List.mem_cons_self]; exact .nil) (ih xs (by simpa using h) fun t ht => h2 t (List.mem_cons_of_mem _ ht))
    exact go ts xs hl hts
/-- an instance with these attributes -/
def oIns (C : Addr) (v : V) (fs : List (Str × V)) : Ow Unit where
  o := fun F _ c => ∃ p dx, v = .ref p ∧ c = [(p, .ins C dx fs)]
  mono := fun _ h => h
theorem b_put {f : Str} {fs : List (Str × V)} {B0 : Ow S} {m : M (Unit × S) α} {h : α → Unit × S → Option Ω} (cl : Cls K C) (nf : NoAttr K C f) (hl : fs.length < 1000) (h0 : σ[j]? = some (some v)) (he : Ev te σ F (star (oIns C v fs) B0) R m)
    (k : ∀ w x F', Same F F' → R.r F' w x → B u σ F' (star (oIns C v (putF f w fs)) B0) P (h x)) : B (tSeq (sFld K (tVar j) te f) u) σ F (star (oIns C v fs) B0) P (bnd m h) := fun s w hm F1 H c O sm ho W D q => by
  obtain ⟨x, s1, h1, hm⟩ := bnd_some hm
  refine he s x s1 h1 F1 H c O sm ho W _ fun z F2 H2 c2 sm2 ⟨c3, c4, ec, ⟨p, dx, ev, ei⟩, o4⟩ W2 r2 => ⟨_, h0, ?_⟩
  subst ev ei ec
  refine ⟨p, C, dx, fs, rfl, W2.hd, cl, nf, hl, ?_⟩
  exact k z x F2 (sm.trans sm2) r2 s1 w hm F2 _ _ O (SameR _) ⟨[(p, _)], c4, rfl, ⟨p, dx, rfl, rfl⟩, o4⟩ W2.set D (P.mono sm2 q)
def nwp {S T' Ω : Type} (h : Unit × (S × T') → Option Ω) (x : T') : Unit × S → Option Ω := fun s => h (s.1, (s.2, x))
theorem b_putO {f : Str} {fs : List (Str × V)} {B0 : Ow S} {Bf : V → Ow T'} {m : M (Unit × S) T'} {h : Unit × (S × T') → Option Ω} (cl : Cls K C) (nf : NoAttr K C f) (hl : fs.length < 1000) (h0 : σ[j]? = some (some v)) (he : EvO te σ F (star (oIns C v fs) B0) Bf m)
    (k : ∀ w F', Same F F' → B u σ F' (star (oIns C v (putF f w fs)) (star B0 (Bf w))) P h) : B (tSeq (sFld K (tVar j) te f) u) σ F (star (oIns C v fs) B0) P (bnd m (nwp h)) := fun s w hm F1 H c O sm ho W D q => by
  obtain ⟨x, s1, h1, hm⟩ := bnd_some hm
  refine he s x s1 h1 F1 H c O sm ho W _ fun z F2 H2 c2 cb sm2 ⟨c3, c4, ec, ⟨p, dx, ev, ei⟩, o4⟩ ob W2 => ⟨_, h0, ?_⟩
  subst ev ei ec
  have W3 : Wd F2 H2 ((p, .ins C dx fs) :: ((c4 ++ cb) ++ O)) := by
    refine W2.perm ?_
    simp only [List.cons_append, List.nil_append, List.append_assoc]
    refine (List.perm_middle).trans (List.Perm.cons _ ?_)
    rw [← List.append_assoc, ← List.append_assoc]
    exact List.perm_append_comm.append_right O
  refine ⟨p, C, dx, fs, rfl, W3.hd, cl, nf, hl, ?_⟩
  exact k z F2 (sm.trans sm2) _ w hm F2 _ (_ :: (c4 ++ cb)) O (SameR _) ⟨[(p, _)], c4 ++ cb, rfl, ⟨p, dx, rfl, rfl⟩, c4, cb, rfl, o4, ob⟩ W3.set D (P.mono sm2 q)
end
/-! ### Run(net) -/
section
variable {K : PySem.W.Frag} {C : Addr}
/-- the attributes stand so behind __init__ -/
theorem run_fs (vn vs vh vt vr ve : V) (g c d : Int) : putF "elder" ve (putF "rows" vr (putF "all_ground" (.int d) (putF "all_came" (.int c) (putF "all_tips" vt (putF "many_gone" (.int g) (putF "hand" vh (putF "now" vs (putF "net" vn [])))))))) = runFs vn vs vh vt vr ve g c d := by
  have n0 : putF "net" vn [] = ([("net", vn)] : List (Str × V)) := rfl
  rw [n0]
  have n1 : putF "now" vs ([("net", vn)] : List (Str × V)) = ([("net", vn), ("now", vs)] : List (Str × V)) := (putF_past (by decide +kernel)).trans rfl
  rw [n1]
  have n2 : putF "hand" vh ([("net", vn), ("now", vs)] : List (Str × V)) = ([("net", vn), ("now", vs), ("hand", vh)] : List (Str × V)) := by
    rw [putF_past (by decide +kernel), putF_past (by decide +kernel)]; rfl
  rw [n2]
  have n3 : putF "many_gone" (.int g) ([("net", vn), ("now", vs), ("hand", vh)] : List (Str × V)) = ([("net", vn), ("now", vs), ("hand", vh), ("many_gone", .int g)] : List (Str × V)) := by
    rw [putF_past (by decide +kernel), putF_past (by decide +kernel), putF_past (by decide +kernel)]; rfl
  rw [n3]
  have n4 : putF "all_tips" vt ([("net", vn), ("now", vs), ("hand", vh), ("many_gone", .int g)] : List (Str × V)) = ([("net", vn), ("now", vs), ("hand", vh), ("many_gone", .int g), ("all_tips", vt)] : List (Str × V)) := by
    rw [putF_past (by decide +kernel), putF_past (by decide +kernel), putF_past (by decide +kernel), putF_past (by decide +kernel)]; rfl
  rw [n4]
  have n5 : putF "all_came" (.int c) ([("net", vn), ("now", vs), ("hand", vh), ("many_gone", .int g), ("all_tips", vt)] : List (Str × V)) = ([("net", vn), ("now", vs), ("hand", vh), ("many_gone", .int g), ("all_tips", vt), ("all_came", .int c)] : List (Str × V)) := by
    rw [putF_past (by decide +kernel), putF_past (by decide +kernel), putF_past (by decide +kernel), putF_past (by decide +kernel), putF_past (by decide +kernel)]; rfl
  rw [n5]
  have n6 : putF "all_ground" (.int d) ([("net", vn), ("now", vs), ("hand", vh), ("many_gone", .int g), ("all_tips", vt), ("all_came", .int c)] : List (Str × V)) = ([("net", vn), ("now", vs), ("hand", vh), ("many_gone", .int g), ("all_tips", vt), ("all_came", .int c), ("all_ground", .int d)] : List (Str × V)) := by
    rw [putF_past (by decide +kernel), putF_past (by decide +kernel), putF_past (by decide +kernel), putF_past (by decide +kernel), putF_past (by decide +kernel), putF_past (by decide +kernel)]; rfl
  rw [n6]
  have n7 : putF "rows" vr ([("net", vn), ("now", vs), ("hand", vh), ("many_gone", .int g), ("all_tips", vt), ("all_came", .int c), ("all_ground", .int d)] : List (Str × V)) = ([("net", vn), ("now", vs), ("hand", vh), ("many_gone", .int g), ("all_tips", vt), ("all_came", .int c), ("all_ground", .int d), ("rows", vr)] : List (Str × V)) := by
    rw [putF_past (by decide +kernel), putF_past (by decide +kernel), putF_past (by decide +kernel), putF_past (by decide +kernel), putF_past (by decide +kernel), putF_past (by decide +kernel), putF_past (by decide +kernel)]; rfl
  rw [n7]
  rw [putF_past (by decide +kernel), putF_past (by decide +kernel), putF_past (by decide +kernel), putF_past (by decide +kernel), putF_past (by decide +kernel), putF_past (by decide +kernel), putF_past (by decide +kernel), putF_past (by decide +kernel)]; rfl
end
end T

/-! T15: a Run's methods. -/
namespace T
open PySem L2
section
variable {S S' T' α β γ Ω ι : Type} {R : Rl α} {R' : Rl β} {K : PySem.W.Frag} {C : Addr} {σ : L2.St} {F : Hp} {A : Ow S} {te te0 ti ta : TE} {tt : TT} {u : TS} {P : Post Ω} {v w vh vt vr ve : V} {i j k : Nat}
theorem b_ifDead {mb : M S Bool} {f : S → Option Ω} (hc : EvT tt σ F A mb) (k : ∀ F', Same F F' → B u σ F' A P f) : B (tSeq (tIfS tt tDead tNext) u) σ F A P (bnd mb fun b => bif b then (fun _ => none) else f) := fun s w hm F1 H c O sm ho W D q => by
  obtain ⟨b, s1, h1, h2⟩ := bnd_some hm
  refine hc s b s1 h1 F1 H c O sm ho W _ fun F2 H2 c2 sm2 o2 W2 => ?_
  cases b with
  | true => cases h2
  | false => exact iteF (k F2 (sm.trans sm2) s1 w h2 F2 H2 c2 O (SameR _) o2 W2 D (P.mono sm2 q))
theorem ev_open {m : M RunS α} (h : ∀ vh vt vr ve, Ev te σ F (oParts C v vh vt vr ve) R m) : Ev te σ F (oRun C v) R m := fun s b s' hm F1 H c O sm ⟨vh, vt, vr, ve, ho⟩ W Q q => h vh vt vr ve s b s' hm F1 H c O sm ho W Q fun z F2 H2 c2 s2 o2 => q z F2 H2 c2 s2 ⟨vh, vt, vr, ve, o2⟩
theorem eC : Emb (oParts C v vh vt vr ve) (oCore C v vh vt vr ve) (fun s => s.1.1.1.1) (fun s t => ((((t, s.1.1.1.2), s.1.1.2), s.1.2), s.2)) := emb_l (emb_l (emb_l (emb_l emb_id)))
theorem eH : Emb (oParts C v vh vt vr ve) (oLst rInt vh) (fun s => s.1.1.1.2) (fun s t => ((((s.1.1.1.1, t), s.1.1.2), s.1.2), s.2)) := emb_l (emb_l (emb_l (emb_r emb_id)))
theorem eT : Emb (oParts C v vh vt vr ve) (oLL rInt vt) (fun s => s.1.1.2) (fun s t => (((s.1.1.1, t), s.1.2), s.2)) := emb_l (emb_l (emb_r emb_id))
theorem eR : Emb (oParts C v vh vt vr ve) (oLst rRRow vr) (fun s => s.1.2) (fun s t => ((s.1.1, t), s.2)) := emb_l (emb_r emb_id)
theorem eE : Emb (oParts C v vh vt vr ve) (oLst rElder ve) (fun s => s.2) (fun s t => (s.1, t)) := emb_r emb_id
/-- a method without arguments, of an owned instance -/
theorem ev_meth0S {T γ : Type} {mn : Str} {Bf : V → Ow T} {U : Rl γ} {f : M T γ} {E : XK} {g : S → T} {p : S → T → S} (hh : InsHd Bf C mn) (hv : σ[j]? = some (some v)) (e : Emb A (Bf v) g p) :
    Ev (tMeth C mn (spS (fun v => arOne (rV v)) Bf U (fun _ => f)) [] E (tVar j) tNil) σ F A U (zm g p f) := fun s b s' hm F1 H c O sm ho W Q q => by
  obtain ⟨t, h2, rfl⟩ := zm_some hm
  obtain ⟨c3, c4, pm, ob, k⟩ := e.split ho
  obtain ⟨p0, dx, fs, rest, rfl, rfl, hl⟩ := hh.hd ob
  have W0 : Wd F1 H ((p0, .ins C dx fs) :: (rest ++ (c4 ++ O))) := by
    refine W.perm ((pm.append_right O).trans ?_)
    simp
  refine ⟨_, hv, p0, dx, fs, rfl, W0.hd, hl, ?_⟩
  refine ⟨.ref p0, F1, c4 ++ O, (p0, .ins C dx fs) :: rest, (), g s, b, t, ⟨_, rfl, rfl⟩, ob, W.perm ?_, h2, fun v F3 H3 c5 s3 o3 W3 r3 => ?_⟩
  · rw [← List.append_assoc]; exact pm.append_right O
  · obtain ⟨c', oc, pm2⟩ := k F3 t c5 s3 o3
    refine q v F3 H3 c' s3 oc (W3.perm ?_) r3
    rw [← List.append_assoc]; exact (pm2.append_right O).symm
theorem hd_run (m : Str) (h : ∀ vn vs vh vt vr ve g c d, List.lookup m (runFs vn vs vh vt vr ve g c d) = none) : InsHd (oRun C) C m := ⟨fun ⟨vh, vt, vr, ve, c1, c2, e1, ⟨c3, c4, e2, ⟨c5, c6, e3, ⟨c7, c8, e4, ⟨p, dx, vn, vs, ev, ec, _⟩, _⟩, _⟩, _⟩, _⟩ => by
  subst e1 e2 e3 e4 ec
  exact ⟨p, dx, _, _, ev, by simp only [List.cons_append, List.nil_append, List.append_assoc]; rfl, h _ _ _ _ _ _ _ _ _⟩⟩
theorem nolk {m : Str} (h : (["net", "now", "hand", "many_gone", "all_tips", "all_came", "all_ground", "rows", "elder"] : List Str).all (fun k => !(m == k)) = true) : ∀ vn vs vh vt vr ve g c d, List.lookup m (runFs vn vs vh vt vr ve g c d) = none := by
  intro vn vs vh vt vr ve g c d
  simp only [List.all_cons, List.all_nil, Bool.and_eq_true, Bool.not_eq_true', Bool.and_true] at h
  obtain ⟨h1, h2, h3, h4, h5, h6, h7, h8, h9⟩ := h
  unfold runFs
  rw [lk_ne h1, lk_ne h2, lk_ne h3, lk_ne h4, lk_ne h5, lk_ne h6, lk_ne h7, lk_ne h8, lk_ne h9]; rfl
/-! the small ones -/
def mRunTick : M RunS Int := bnd (gtL (fun s => s.1.1.1.1) fun s => some s.2.2.1) fun x s => some (x, s)
def mRunState : M RunS State := bnd (gtL (fun s => s.1.1.1.1) fun s => some s.2.1) fun x s => some (x, s)
def mRunCame : M RunS Int := bnd (gtL (fun s => s.1.1.1.1) fun s => some s.2.2.2.1) fun x s => some (x, s)
def mRunGrounded : M RunS Int := bnd (gtL (fun s => s.1.1.1.1) fun s => some s.2.2.2.2) fun x s => some (x, s)
theorem run_tick (T : RunT K C) : B (tSeq (tRet (tFld K (tVar 0) "many_gone")) tNext) [some v] F (oRun C v) (pRt (oRun C v) rInt) mRunTick := b_open fun vh vt vr ve => b_ret pr_run (ev_gone T (rd_var rfl) eC)
theorem run_state (T : RunT K C) : B (tSeq (tRet (tFld K (tVar 0) "now")) tNext) [some v] F (oRun C v) (pRt (oRun C v) rState) mRunState := b_open fun vh vt vr ve => b_ret pr_run (ev_now T (rd_var rfl) eC)
theorem run_came (T : RunT K C) : B (tSeq (tRet (tFld K (tVar 0) "all_came")) tNext) [some v] F (oRun C v) (pRt (oRun C v) rInt) mRunCame := b_open fun vh vt vr ve => b_ret pr_run (ev_came T (rd_var rfl) eC)
theorem run_grounded (T : RunT K C) : B (tSeq (tRet (tFld K (tVar 0) "all_ground")) tNext) [some v] F (oRun C v) (pRt (oRun C v) rInt) mRunGrounded := b_open fun vh vt vr ve => b_ret pr_run (ev_ground T (rd_var rfl) eC)
/-! with need_vessel -/
abbrev spNV (nv : Net → Int → Option Unit) : Sp := spP (arC rNet (arOne rInt)) rNone (fun x => nv x.1 x.2)
def mNV (nv : Net → Int → Option Unit) (x : Int) : M RunS Unit := bnd (bnd (gtL (fun s => s.1.1.1.1) fun s => some s.1) fun a => bnd (ret x) fun b => ret (a, b)) fun a => lft (nv a.1 a.2)
abbrev tNV (K : PySem.W.Frag) (nv : Net → Int → Option Unit) : TS := tDrop (tCall (spNV nv) [] E0 (tCons (tFld K (tVar 0) "net") (tCons (tVar 1) tNil)))
theorem ev_NV {nv : Net → Int → Option Unit} (T : RunT K C) (h0 : σ[0]? = some (some v)) (h1 : σ[1]? = some (some w)) {x : Int} (r : rInt.r F w x) : Ev (tCall (spNV nv) [] E0 (tCons (tFld K (tVar 0) "net") (tCons (tVar 1) tNil))) σ F (oParts C v vh vt vr ve) rNone (mNV nv x) :=
  ev_callP (ea_cons (ev_net T (rd_var h0) eC) (ea_one (ev_var r h1)))
def mRunPoured (nv : Net → Int → Option Unit) (x : Int) : M RunS Int := bnd (mNV nv x) fun _ => bnd (bnd (ret x) fun i => gtL (fun s => s.1.1.1.2) fun xs => atI xs i) fun x s => some (x, s)
theorem run_poured {nv : Net → Int → Option Unit} (T : RunT K C) {x : Int} (r : rInt.r F w x) : B (tSeq (tNV K nv) (tSeq (tRet (tOp (rIxL K) (tFld K (tVar 0) "hand") (tVar 1))) tNext)) [some v, some w] F (oRun C v) (pRt (oRun C v) rInt) (mRunPoured nv x) :=
  b_open fun vh vt vr ve => b_expr (ev_NV T rfl rfl r) fun _ F' s' => b_ret pr_run (ev_ixR (rd_hand T (rd_var rfl) eC) eH (ev_var (rInt.mono s' r) rfl))
def mRunTips (nv : Net → Int → Option Unit) (x : Int) : M RunS (List Int) := bnd (mNV nv x) fun _ => bnd (bnd (ret x) fun i => gtL (fun s => s.1.1.2) fun xs => atI xs i) fun x s => some (x, s)
theorem run_tips {nv : Net → Int → Option Unit} (T : RunT K C) {x : Int} (r : rInt.r F w x) : B (tSeq (tNV K nv) (tSeq (tRet (tCB (rListOf K) (tCons (tOp (rIxL K) (tFld K (tVar 0) "all_tips") (tVar 1)) tNil))) tNext)) [some v, some w] F (oRun C v) (pRt (oRun C v) (rLst rInt)) (mRunTips nv x) :=
  b_open fun vh vt vr ve => b_expr (ev_NV T rfl rfl r) fun _ F' s' => b_ret pr_run (ev_frz (eo_copyLL (rd_tips T (rd_var rfl) eC) eT (ev_var (rInt.mono s' r) rfl)))
end
end T

/-! T16: a Run's keep, pour, go, and its making. -/
namespace T
open PySem L2
section
variable {S S' T' α β γ Ω ι : Type} {R : Rl α} {R' : Rl β} {K : PySem.W.Frag} {C : Addr} {σ : L2.St} {F : Hp} {A : Ow S} {te te0 ti ta : TE} {tt : TT} {u : TS} {P : Post Ω} {v w vh vt vr ve : V} {i j k : Nat}
theorem ev_inl {m : M S α} (h : Ev te σ F A R m) : Ev te σ F A (rSum R R') (bnd m fun x => ret (.inl x)) := fun s b s' hm F1 H c O sm ho W Q q => by
  obtain ⟨x, s1, h1, hm⟩ := bnd_some hm
  obtain ⟨rfl, rfl⟩ := ret_some hm
  exact h s x _ h1 F1 H c O sm ho W _ fun v F2 H2 c2 s2 o2 W2 r2 => q v F2 H2 c2 s2 o2 W2 r2
theorem ev_inr {m : M S β} (h : Ev te σ F A R' m) : Ev te σ F A (rSum R R') (bnd m fun x => ret (.inr x)) := fun s b s' hm F1 H c O sm ho W Q q => by
  obtain ⟨x, s1, h1, hm⟩ := bnd_some hm
  obtain ⟨rfl, rfl⟩ := ret_some hm
  exact h s x _ h1 F1 H c O sm ho W _ fun v F2 H2 c2 s2 o2 W2 r2 => q v F2 H2 c2 s2 o2 W2 r2
abbrev gC : RunS → RCore := fun s => s.1.1.1.1
abbrev rSums := rTh (arC rInt (arC rInt (arOne rInt)))
/-! keep -/
def mRunKeep : M RunS Unit := bnd (bnd (gtL gC fun s => some s.2.2.1) fun a => bnd (bnd (gtL gC fun s => some s.2.2.2.1) fun a => bnd (gtL gC fun s => some s.2.2.2.2) fun b => ret (a, b)) fun b => ret (a, b)) fun x =>
  bnd (bnd (gtL gC fun s => some s.2.1) fun a => bnd (bnd (gtL (fun s => s.1.1.1.2) fun xs => some xs) fun a => bnd (bnd (ret x) fun a => bnd (bnd (gtL (fun s => s.1.1.2) fun xs => chk xs) fun xs => ret (xs.map fun ys => (ys.length : Int))) fun b => ret (a, b)) fun b => ret (a, b)) fun b => ret (a, b)) fun y =>
  bnd (upL (fun s => s.2) (fun s t => (s.1, t)) fun xs => app xs y) fun _ => fun s => some ((), s)
abbrev tTicks (K : PySem.W.Frag) : TE := tLc (iList K (tFld K (tVar 0) "all_tips")) (gName 2) tYes (tCB (rLen K) (tCons (tVar 2) tNil)) [2]
def tRunKeep (K : PySem.W.Frag) : TS := tSeq (tAsg (tTup (tCons (tFld K (tVar 0) "many_gone") (tCons (tFld K (tVar 0) "all_came") (tCons (tFld K (tVar 0) "all_ground") tNil)))) (gName 1))
  (tSeq (tDrop (tBM K "list" rAppend (tFld K (tVar 0) "elder") (tCons (tTup (tCons (tFld K (tVar 0) "now") (tCons (tCB (rTupleOf K) (tCons (tFld K (tVar 0) "hand") tNil)) (tCons (tVar 1) (tCons (tTicks K) tNil))))) tNil))) tNext)
theorem run_keep (T : RunT K C) : B (tRunKeep K) [some v, none, none] F (oRun C v) (pNx (oRun C v) fun _ _ _ => True) mRunKeep :=
  b_open fun vh vt vr ve => b_set (R := rSums) (ev_tup (by decide) (ea_cons (ev_gone T (rd_var rfl) eC) (ea_cons (ev_came T (rd_var rfl) eC) (ea_one (ev_ground T (rd_var rfl) eC))))) fun w x F' s' r =>
    b_σ (σ' := [some v, some w, none]) rfl (b_appR (rd_elder T (rd_var rfl) eC) eE (ev_tup (by decide) (ea_cons (ev_now T (rd_var rfl) eC) (ea_cons (ev_cbR vh_tuple (rd_hand T (rd_var rfl) eC) eH) (ea_cons (ev_var r rfl) (ea_one (ev_frz (eo_lens (rd_tips T (rd_var rfl) eC) eT (by show 2 < 3; decide) (fun _ => wipe_s _ _ (by decide) (wipe_w _ _)))))))))
      (b_end pr_run))
/-! pour -/
abbrev spKeep (C : Addr) : Sp := spS (fun v => arOne (rV v)) (oRun C) rNone (fun _ => mRunKeep)
def mRunPour (nv : Net → Int → Option Unit) (x y : Int) : M RunS Unit := bnd (mNV nv x) fun _ => bnd (zm (fun s => s) (fun _ t => t) mRunKeep) fun _ =>
  bnd (bnd (ret ("pour" : Str)) fun a => bnd (bnd (ret x) fun a => bnd (bnd (ret y) fun x => ret (Sum.inl x)) fun b => ret (a, b)) fun b => ret (a, b)) fun r =>
  bnd (upL (fun s => s.1.2) (fun s t => ((s.1.1, t), s.2)) fun xs => app xs r) fun _ =>
  bnd (ret x) fun i => bnd (gtL (fun s => s.1.1.1.2) fun xs => atI xs i) fun a => bnd (ret y) fun b => bnd (upL (fun s => s.1.1.1.2) (fun s t => ((((s.1.1.1.1, t), s.1.1.2), s.1.2), s.2)) fun xs => setI xs i (a + b)) fun _ => fun s => some ((), s)
def tRunPour (K : PySem.W.Frag) (C : Addr) (nv : Net → Int → Option Unit) : TS := tSeq (tNV K nv) (tSeq (tDrop (tMeth C "keep" (spKeep C) [] E0 (tVar 0) tNil))
  (tSeq (tDrop (tBM K "list" rAppend (tFld K (tVar 0) "rows") (tCons (tTup (tCons (tC (.str "pour")) (tCons (tVar 1) (tCons (tVar 2) tNil)))) tNil)))
  (tSeq (tAugS (tFld K (tVar 0) "hand") (tVar 1) (tVar 2) (rIxL K) (ipI fun i j => i + j) rSetL) tNext)))
theorem run_pour {nv : Net → Int → Option Unit} {w2 : V} {x y : Int} (T : RunT K C) (r : rInt.r F w x) (r2 : rInt.r F w2 y) : B (tRunPour K C nv) [some v, some w, some w2] F (oRun C v) (pNx (oRun C v) fun _ _ _ => True) (mRunPour nv x y) :=
  b_expr (ev_open fun vh vt vr ve => ev_NV T rfl rfl r) fun _ F1 s1 => b_expr (ev_meth0S (hd_run "keep" (nolk (by decide +kernel))) rfl emb_id) fun _ F2 s2 => b_open fun vh vt vr ve =>
    b_appR (rd_rows T (rd_var rfl) eC) eR (ev_tup (by decide) (ea_cons ev_str (ea_cons (ev_var (rInt.mono (s1.trans s2) r) rfl) (ea_one (ev_inl (ev_var (rInt.mono (s1.trans s2) r2) rfl))))))
      (b_augR (h := fun i j => i + j) (rd_hand T (rd_var rfl) eC) eH (ev_var (rInt.mono (s1.trans s2) r) rfl) (ev_var (rInt.mono (s1.trans s2) r2) rfl) (b_end pr_run))
end
end T

/-! T17: a Run's go, and its making. -/
namespace T
open PySem L2
section
variable {S S' T' α β γ Ω ι : Type} {R : Rl α} {R' : Rl β} {K : PySem.W.Frag} {C : Addr} {σ : L2.St} {F : Hp} {A : Ow S} {te te0 ti ta : TE} {tt : TT} {u : TS} {P : Post Ω} {v w vh vt vr ve : V} {i j k : Nat}
abbrev TickW := Net → State → List Int → Option Int → Option (State × List Int × Int × Int)
abbrev spTW (tw : TickW) : Sp := spP (arC rNet (arC rState (arC (rTup rInt) (arOne (rOpt rInt))))) rTick (fun x => tw x.1 x.2.1 x.2.2.1 x.2.2.2)
abbrev spDry (dry : Net → Option (List Int)) : Sp := spP (arOne rNet) (rTup rInt) (fun x => dry x)
abbrev GoS := RunS × List TipAt
/-- what a tipping does to the books -/
def mGoTip (n : Int) : M GoS Unit := bnd (ret n) fun i => bnd (gtL (fun s => s) fun s => some s.1.1.1.1.1.2.2.1) fun x => bnd (upL (fun s => s.1.1.1.2) (fun s t => ((((s.1.1.1.1, t), s.1.1.2), s.1.2), s.2)) fun xs => (atI xs i).bind fun ys => (app ys x).bind fun zs => setI xs i zs) fun _ =>
  bnd (bnd (gtL (fun s => s.1.1.1.1.1) fun s => some s.2.2.1) fun a => bnd (ret n) fun b => ret (a, b)) fun r => bnd (upL (fun s => s.2) (fun s t => (s.1, t)) fun xs => app xs r) fun _ => fun s => some ((), s)
def putC (s : GoS) (t : RCore) : GoS := (((((t, s.1.1.1.1.2), s.1.1.1.2), s.1.1.2), s.1.2), s.2)
def mGoTurn (tw : TickW) (dry : Net → Option (List Int)) : M GoS Unit := bnd (bnd (bnd (gtL (fun s => s.1.1.1.1.1) fun s => some s.1) fun a => bnd (bnd (gtL (fun s => s.1.1.1.1.1) fun s => some s.2.1) fun a => bnd (bnd (gtL (fun s => s.1.1.1.1.2) fun xs => some xs) fun a => bnd (ret none) fun b => ret (a, b)) fun b => ret (a, b)) fun b => ret (a, b)) fun x => lft (tw x.1 x.2.1 x.2.2.1 x.2.2.2)) fun x =>
  bnd (upL (fun s => s.1.1.1.1.1) putC fun t => some (t.1, x.1, t.2.2)) fun _ =>
  bnd (bnd (bnd (gtL (fun s => s.1.1.1.1.1) fun s => some s.1) fun a => lft (dry a)) fun a => lft (some a)) fun h =>
  bnd (upL (fun s => s.1.1.1.1) (fun s t => ((((t, s.1.1.1.2), s.1.1.2), s.1.2), s.2)) fun t => some (t.1, h)) fun _ =>
  bnd (ret x.2.1) fun ns => bnd (fd (fun (_ : Unit) n => mGoTip n) () ns) fun _ =>
  bnd (ret x.2.2.1) fun y => bnd (upL (fun s => s.1.1.1.1.1) putC fun t => some (t.1, t.2.1, t.2.2.1, t.2.2.2.1, t.2.2.2.2 + y)) fun _ =>
  bnd (ret x.2.2.2) fun y => bnd (upL (fun s => s.1.1.1.1.1) putC fun t => some (t.1, t.2.1, t.2.2.1, t.2.2.2.1 + y, t.2.2.2.2)) fun _ =>
  bnd (ret 1) fun y => bnd (upL (fun s => s.1.1.1.1.1) putC fun t => some (t.1, t.2.1, t.2.2.1 + y, t.2.2.2.1, t.2.2.2.2)) fun _ => fun s => some ((), s)
def mRunGo (tw : TickW) (dry : Net → Option (List Int)) (many : Int) : M RunS Unit := bnd (zm (fun s => s) (fun _ t => t) mRunKeep) fun _ => bnd (bnd (ret ([] : List TipAt)) fun xs => lft (few xs)) (nw (
  bnd (bnd (ret many) fun n => lft (rng 0 n)) fun xs => bnd (fd (fun (_ : Unit) _ => mGoTurn tw dry) () xs) fun _ =>
  bnd (bnd (ret ("go" : Str)) fun a => bnd (bnd (ret many) fun a => bnd (bnd (gtL (fun s => s.2) fun xs => some xs) fun x => ret (Sum.inr x)) fun b => ret (a, b)) fun b => ret (a, b)) fun r =>
  bnd (upL (fun s => s.1.1.2) (fun s t => (((s.1.1.1, t), s.1.2), s.2)) fun xs => app xs r) fun _ => fun s => some ((), s.1)))
abbrev tSelf (K : PySem.W.Frag) (f : Str) : TE := tFld K (tVar 0) f
def tGoTip (K : PySem.W.Frag) : TS := tSeq (tDrop (tBM K "list" rAppend (tOp (rIxL K) (tSelf K "all_tips") (tVar 7)) (tCons (tSelf K "many_gone") tNil)))
  (tSeq (tDrop (tBM K "list" rAppend (tVar 2) (tCons (tTup (tCons (tSelf K "many_gone") (tCons (tVar 7) tNil))) tNil))) tNext)
def tGoTurn (K : PySem.W.Frag) (tw : TickW) (dry : Net → Option (List Int)) : TS :=
  tSeq (tAsg (tCall (spTW tw) [] E0 (tCons (tSelf K "net") (tCons (tSelf K "now") (tCons (tCB (rTupleOf K) (tCons (tSelf K "hand") tNil)) (tCons (tC .non) tNil))))) (gTup K 4 (gCons (gFld K (tVar 0) "now") (gCons (gName 4) (gCons (gName 5) (gCons (gName 6) gNil))))))
  (tSeq (sFld K (tVar 0) (tCB (rListOf K) (tCons (tCall (spDry dry) [] E0 (tCons (tSelf K "net") tNil)) tNil)) "hand")
  (tSeq (tFor (iTup K (tVar 4)) (gName 7) (tGoTip K))
  (tSeq (sFldAug K (tVar 0) (tVar 5) rAdd "all_ground") (tSeq (sFldAug K (tVar 0) (tVar 6) rAdd "all_came") (tSeq (sFldAug K (tVar 0) (tC (.int 1)) rAdd "many_gone") tNext)))))
def tRunGo (K : PySem.W.Frag) (C : Addr) (tw : TickW) (dry : Net → Option (List Int)) : TS := tSeq (tDrop (tMeth C "keep" (spKeep C) [] E0 (tVar 0) tNil)) (tSeq (tAsg (tLst tNil) (gName 2))
  (tSeq (tFor (iRng1 (tCons (tVar 1) tNil)) (gName 3) (tGoTurn K tw dry))
  (tSeq (tDrop (tBM K "list" rAppend (tSelf K "rows") (tCons (tTup (tCons (tC (.str "go")) (tCons (tVar 1) (tCons (tCB (rTupleOf K) (tCons (tVar 2) tNil)) tNil)))) tNil))) tNext)))
abbrev oGo (C : Addr) (v vt vr ve va vh : V) : Ow GoS := star (oParts C v vh vt vr ve) (oLst rTipAt va)
variable {va : V}
theorem gCo : Emb (oGo C v vt vr ve va vh) (oCore C v vh vt vr ve) (fun s => s.1.1.1.1.1) putC := emb_l eC
theorem gHa : Emb (oGo C v vt vr ve va vh) (oLst rInt vh) (fun s => s.1.1.1.1.2) (fun s t => (((((s.1.1.1.1.1, t), s.1.1.1.2), s.1.1.2), s.1.2), s.2)) := emb_l eH
theorem gTi : Emb (oGo C v vt vr ve va vh) (oLL rInt vt) (fun s => s.1.1.1.2) (fun s t => ((((s.1.1.1.1, t), s.1.1.2), s.1.2), s.2)) := emb_l eT
theorem gRo : Emb (oGo C v vt vr ve va vh) (oLst rRRow vr) (fun s => s.1.1.2) (fun s t => (((s.1.1.1, t), s.1.2), s.2)) := emb_l eR
theorem gAl : Emb (oGo C v vt vr ve va vh) (oLst rTipAt va) (fun s => s.2) (fun s t => (s.1, t)) := emb_r emb_id
theorem run_goTip (T : RunT K C) {vm : V} {x4 x5 x6 : Option V} {x3 : Option V} {n : Int} {x7 : V} (r : rInt.r F x7 n) : B (tGoTip K) [some v, some vm, some va, x3, x4, x5, x6, some x7] F (oGo C v vt vr ve va vh) (pNx (oGo C v vt vr ve va vh) fun (_ : Unit) _ σ => ∃ u, σ = [some v, some vm, some va, x3, x4, x5, x6, u]) (mGoTip n) :=
  b_appLL (rd_tips T (rd_var rfl) gCo) gTi (ev_var r rfl) (ev0_gone T (rd_var rfl) gCo)
    (b_app rfl gAl (ev_tup (by decide) (ea_cons (ev_gone T (rd_var rfl) gCo) (ea_one (ev_var r rfl)))) (b_nx pr_id fun _ _ => ⟨_, rfl⟩))
theorem run_goTurn {tw : TickW} {dry : Net → Option (List Int)} (T : RunT K C) {vm : V} {x3 x4 x5 x6 x7 : Option V} :
    B (tGoTurn K tw dry) [some v, some vm, some va, x3, x4, x5, x6, x7] F (oGo C v vt vr ve va vh) (pNxI (fun i => oGo C v vt vr ve va i) fun (_ : Unit) _ _ σ => ∃ u3 u4 u5 u6 u7, σ = [some v, some vm, some va, u3, u4, u5, u6, u7]) (mGoTurn tw dry) :=
  b_unpNow T rfl gCo (ev_callP (ea_cons (ev_net T (rd_var rfl) gCo) (ea_cons (ev_now T (rd_var rfl) gCo) (ea_cons (ev_cbR vh_tuple (rd_hand T (rd_var rfl) gCo) gHa) (ea_one ev_nonO))))) fun v1 v2 v3 x F1 s1 r1 r2 r3 =>
  b_σ (σ' := [some v, some vm, some va, x3, some v1, some v2, some v3, x7]) rfl
  (b_hand (A := fun i => oGo C v vt vr ve va i) T rfl (embF_l (embF_l (embF_l (embF_l embF_id)))) (eo_cb vo_listT (ea_one (ev_callP (ea_one (ev_net T (rd_var rfl) gCo))))) fun vh' F2 s2 =>
  b_for (z0 := ()) (Sl := fun _ _ σ => ∃ u, σ = [some v, some vm, some va, x3, some v1, some v2, some v3, u]) (ei_tup (ev_var ((rTup rInt).mono s2 r1) rfl)) (fun _ _ => ⟨_, rfl⟩)
    (fun z n w F' σ' s' ⟨u, e⟩ r => by subst e; exact b_go go_name (fun _ k => by subst k; exact b_σ (σ' := [some v, some vm, some va, x3, some v1, some v2, some v3, some w]) rfl (run_goTip T r)))
    (fun z F' σ' s' ⟨u, e⟩ => by
      subst e
      exact b_sum T (sf_ground T) (rd_var rfl) gCo (fun s y s1 h => by cases h; rfl) (ev_var (rInt.mono (s2.trans s') r2) rfl)
        (b_sum T (sf_came T) (rd_var rfl) gCo (fun s y s1 h => by cases h; rfl) (ev_var (rInt.mono (s2.trans s') r3) rfl)
        (b_sum T (sf_gone T) (rd_var rfl) gCo (fun s y s1 h => by cases h; rfl) ev_int (b_nxI vh' pr_id fun _ _ => ⟨_, _, _, _, _, rfl⟩))))
    (fun _ _ _ _ _ h => h))
theorem run_go {tw : TickW} {dry : Net → Option (List Int)} (T : RunT K C) {n : Int} (r : rInt.r F w n) : B (tRunGo K C tw dry) [some v, some w, none, none, none, none, none, none] F (oRun C v) (pNx (oRun C v) fun _ _ _ => True) (mRunGo tw dry n) :=
  b_expr (ev_meth0S (hd_run "keep" (nolk (by decide +kernel))) rfl emb_id) fun _ F1 s1 => b_open fun vh vt vr ve =>
  b_new (eo_lst eal_nil) fun va F2 s2 => b_σ (σ' := [some v, some w, some va, none, none, none, none, none]) rfl
  (b_forI (A := fun i => oGo C v vt vr ve va i) vh (z0 := ()) (Sl := fun _ _ _ σ => ∃ u3 u4 u5 u6 u7, σ = [some v, some w, some va, u3, u4, u5, u6, u7]) (ei_rng1 (ev_var (rInt.mono (s1.trans s2) r) rfl)) (fun _ _ => ⟨_, _, _, _, _, rfl⟩)
    (fun z i x y F' σ' s' ⟨u3, u4, u5, u6, u7, e⟩ r => by subst e; exact b_go go_name (fun _ k => by subst k; exact b_σ (σ' := [some v, some w, some va, some y, u4, u5, u6, u7]) rfl (run_goTurn T)))
    (fun z i F' σ' s' ⟨u3, u4, u5, u6, u7, e⟩ => by
      subst e
      exact b_appR (rd_rows T (rd_var rfl) gCo) gRo (ev_tup (by decide) (ea_cons ev_str (ea_cons (ev_var (rInt.mono ((s1.trans s2).trans s') r) rfl) (ea_one (ev_inr (ev_cbR vh_tuple (rd_var rfl) gAl)))))) (b_end (pr_l pr_run)))
    (fun _ _ _ _ _ _ h => h))
end
end T

/-! T18: a Run made. -/
namespace T
open PySem L2
section
variable {S S' T' α β γ Ω ι : Type} {R : Rl α} {R' : Rl β} {K : PySem.W.Frag} {C : Addr} {σ : L2.St} {F : Hp} {A : Ow S} {te te0 ti ta : TE} {tt : TT} {u : TS} {P : Post Ω} {v w vh vt vr ve : V} {i j k : Nat}
theorem lenZ : ([] : List (Str × V)).length ≤ 0 := Nat.le_refl _
theorem lenP {f : Str} {x : V} {fs : List (Str × V)} {n : Nat} (h : fs.length ≤ n) : (putF f x fs).length ≤ n + 1 := Nat.le_trans (length_putF f x fs) (Nat.succ_le_succ h)
theorem lp {fs : List (Str × V)} {n : Nat} (h : fs.length ≤ n) (hn : n < 1000 := by decide) : fs.length < 1000 := Nat.lt_of_le_of_lt h hn
def run0 (net : Net) (st : State) (d : List Int) : RunS := (((((net, st, 0, 0, 0), d), net.1.map fun _ => []), []), [])
def runNew (isn : Net → Option Bool) (fst : Net → Option State) (dry : Net → Option (List Int)) (net : Net) : Option RunS :=
  (isn net).bind fun b => bif b then (fst net).bind fun st => (dry net).bind fun d => (chk net.1).bind fun _ => some (run0 net st d) else none
abbrev spN (f : Net → Option Bool) : Sp := spP (arOne rNet) rBool (fun x => f x)
abbrev spF (f : Net → Option State) : Sp := spP (arOne rNet) rState (fun x => f x)
/-- __init__'s promise -/
def spRunInit (C : Addr) (isn : Net → Option Bool) (fst : Net → Option State) (dry : Net → Option (List Int)) : Sp := fun vs H Q _ => ∃ (p dx : Addr) (F : Hp) (O : Ch) (vn : V) (net : Net) (b : RunS), vs = [.ref p, vn] ∧ rNet.r F vn net ∧ Wd F H ((p, .ins C dx []) :: O) ∧ runNew isn fst dry net = some b ∧
  ∀ (F' H' : Hp) (cb : Ch), Same F F' → (oRun C (.ref p)).o F' b cb → Wd F' H' (cb ++ O) → Q .non H'
theorem eo_run {isn : Net → Option Bool} {fst : Net → Option State} {dry : Net → Option (List Int)} {E : XK} {m : M S Net} (h : Ev te σ F A rNet m) : EvO (tMake C (spRunInit C isn fst dry) [] E (tCons te tNil)) σ F A (oRun C) (bnd m fun n => lft (runNew isn fst dry n)) := fun s b s' hm F1 H c O sm ho W Q q => by
  obtain ⟨n, s1, h1, hm⟩ := bnd_some hm
  obtain ⟨h2, rfl⟩ := lft_some hm
  refine h s n _ h1 F1 H c O sm ho W _ fun v F2 H2 c2 s2 o2 W2 r2 => fun x dx nx ndx ne => ?_
  have W3 : Wd F2 (upd (upd H2 dx (.own x)) x (.ins C dx [])) ((x, .ins C dx []) :: (c2 ++ O)) := (W2.junk ndx).newO (by rw [upd_ne (Ne.symm ne)]; exact nx)
  exact ⟨x, dx, F2, _, v, n, b, rfl, r2, W3, h2, fun F3 H3 cb s3 ob W4 => ⟨rfl, q _ F3 H3 c2 cb (s2.trans s3) (A.mono s3 o2) ob W4⟩⟩
abbrev tCN (f : Net → Option Bool) : TE := tCall (spN f) [] E0 (tCons (tVar 1) tNil)
def tRunInit (K : PySem.W.Frag) (isn : Net → Option Bool) (fst : Net → Option State) (dry : Net → Option (List Int)) : TS :=
  tSeq (tIfS (tNot (tB (tCN isn))) tDead tNext) (tSeq (sFld K (tVar 0) (tVar 1) "net") (tSeq (sFld K (tVar 0) (tCall (spF fst) [] E0 (tCons (tVar 1) tNil)) "now")
  (tSeq (sFld K (tVar 0) (tCB (rListOf K) (tCons (tCall (spDry dry) [] E0 (tCons (tVar 1) tNil)) tNil)) "hand") (tSeq (sFld K (tVar 0) (tC (.int 0)) "many_gone")
  (tSeq (sFld K (tVar 0) (tLc (iTup K (tOp (rIxT K) (tVar 1) (tC (.int 0)))) (gName 2) tYes (tLst tNil) [2]) "all_tips") (tSeq (sFld K (tVar 0) (tC (.int 0)) "all_came") (tSeq (sFld K (tVar 0) (tC (.int 0)) "all_ground")
  (tSeq (sFld K (tVar 0) (tLst tNil) "rows") (tSeq (sFld K (tVar 0) (tLst tNil) "elder") tNext)))))))))
abbrev InS := Unit × (((((Unit × List Int) × List (List Int)) × List RRow) × List Elder))
def pin (net : Net) (st : State) (g c d : Int) (s : InS) : RunS := (((((net, st, g, c, d), s.2.1.1.1.2), s.2.1.1.2), s.2.1.2), s.2.2)
theorem b_inEnd {p : Addr} {vn vs : V} {net : Net} {st : State} {g c d : Int} (r1 : rNet.r F vn net) (r2 : rState.r F vs st) :
    B tNext σ F (star (oIns C (.ref p) (runFs vn vs vh vt vr ve g c d)) (star (star (star (star emp (oLst rInt vh)) (oLL rInt vt)) (oLst rRRow vr)) (oLst rElder ve))) (pNx (oRun C (.ref p)) fun _ _ _ => True) (fun s => some ((), pin net st g c d s)) := fun s w hm F1 H c O sm ⟨c1, c2, e1, ⟨p0, dx, ep, ec⟩, c3, c4, e3, ⟨c5, c6, e5, ⟨c7, c8, e7, ⟨c9, c10, e9, o9, o10⟩, o8⟩, o6⟩, o4⟩ W D q => by
  cases hm
  cases ep
  cases o9
  subst e9 e7 e5 e3 ec e1
  refine q F1 H _ _ (SameR _) ⟨vh, vt, vr, ve, _, _, rfl, ⟨_, _, rfl, ⟨_, _, rfl, ⟨_, _, rfl, ⟨p, dx, vn, vs, rfl, rfl, rNet.mono sm r1, rState.mono sm r2⟩, o10⟩, o8⟩, o6⟩, o4⟩ ?_ trivial
  simp only [List.append_assoc, List.cons_append, List.nil_append] at W ⊢
  exact W
def mRunInit (isn : Net → Option Bool) (fst : Net → Option State) (dry : Net → Option (List Int)) (net : Net) : Unit × Unit → Option (Unit × RunS) :=
  bnd (bnd (bnd (ret net) fun x => lft (isn x)) fun b => ret (!b)) fun b => bif b then (fun _ => none) else
  bnd (ret net) fun nt => bnd (bnd (ret net) fun x => lft (fst x)) fun st =>
  bnd (bnd (bnd (ret net) fun x => lft (dry x)) fun x => lft (some x)) (nwp (bnd (ret (0 : Int)) fun g =>
  bnd (bnd (bnd (ret net) fun a => ret a.1) fun xs => bnd (lft (chk xs)) fun xs => ret (xs.map fun _ => ([] : List Int))) (nwp (bnd (ret (0 : Int)) fun c => bnd (ret (0 : Int)) fun d =>
  bnd (bnd (ret ([] : List RRow)) fun xs => lft (few xs)) (nwp (bnd (bnd (ret ([] : List Elder)) fun xs => lft (few xs)) (nwp fun s => some ((), pin nt st g c d s))))))))
theorem run_init {isn : Net → Option Bool} {fst : Net → Option State} {dry : Net → Option (List Int)} {p : Addr} {net : Net} (T : RunT K C) (r : rNet.r F w net) :
    B (tRunInit K isn fst dry) [some (.ref p), some w, none] F (star (oIns C (.ref p) []) emp) (pNx (oRun C (.ref p)) fun _ _ _ => True) (mRunInit isn fst dry net) :=
  b_ifDead (et_not (et_B (ev_callP (ea_one (ev_var r rfl))))) fun F1 s1 =>
  b_put T.cl T.net (by show 0 < 1000; decide) rfl (ev_var (rNet.mono s1 r) rfl) fun wn nt F2 s2 r2 =>
  b_put T.cl T.now (lp (n := 1) (lenP lenZ)) rfl (ev_callP (ea_one (ev_var (rNet.mono (s1.trans s2) r) rfl))) fun ws st F3 s3 r3 =>
  b_putO T.cl T.hand (lp (n := 2) (lenP (lenP lenZ))) rfl (eo_cb vo_listT (ea_one (ev_callP (ea_one (ev_var (rNet.mono ((s1.trans s2).trans s3) r) rfl))))) fun wh F4 s4 =>
  b_put T.cl T.many_gone (lp (n := 3) (lenP (lenP (lenP lenZ)))) rfl ev_int fun wg g F5 s5 r5 =>
  b_putO T.cl T.all_tips (lp (n := 4) (lenP (lenP (lenP (lenP lenZ))))) rfl (eo_nils (ei_tup (ev_prj prj_0 (ev_var (rNet.mono ((((s1.trans s2).trans s3).trans s4).trans s5) r) rfl))) (fun _ => wipe_s _ _ (by decide) (wipe_w _ _))) fun wt F6 s6 =>
  b_put T.cl T.all_came (lp (n := 5) (lenP (lenP (lenP (lenP (lenP lenZ)))))) rfl ev_int fun wc c F7 s7 r7 =>
  b_put T.cl T.all_ground (lp (n := 6) (lenP (lenP (lenP (lenP (lenP (lenP lenZ))))))) rfl ev_int fun wd d F8 s8 r8 =>
  b_putO T.cl T.rows (lp (n := 7) (lenP (lenP (lenP (lenP (lenP (lenP (lenP lenZ)))))))) rfl (eo_lst eal_nil) fun wr F9 s9 =>
  b_putO T.cl T.elder (lp (n := 8) (lenP (lenP (lenP (lenP (lenP (lenP (lenP (lenP lenZ))))))))) rfl (eo_lst eal_nil) fun we F10 s10 => by
  obtain rfl : wg = .int g := r5
  obtain rfl : wc = .int c := r7
  obtain rfl : wd = .int d := r8
  rw [run_fs]
  exact b_inEnd (rNet.mono (((((((s3.trans s4).trans s5).trans s6).trans s7).trans s8).trans s9).trans s10) r2) (rState.mono ((((((s4.trans s5).trans s6).trans s7).trans s8).trans s9).trans s10) r3)
theorem mRunInit_eq {isn : Net → Option Bool} {fst : Net → Option State} {dry : Net → Option (List Int)} {net : Net} {b : RunS} (h : runNew isn fst dry net = some b) : mRunInit isn fst dry net ((), ()) = some ((), b) := by
  unfold runNew at h
  obtain ⟨t, e1, h⟩ := Option.bind_eq_some_iff.mp h
  cases t with
  | false => cases h
  | true =>
    obtain ⟨st, e2, h⟩ := Option.bind_eq_some_iff.mp (show (fst net).bind _ = some b from h)
    obtain ⟨d, e3, h⟩ := Option.bind_eq_some_iff.mp h
    obtain ⟨xs, e4, h⟩ := Option.bind_eq_some_iff.mp h
    cases h
    obtain ⟨rfl, _⟩ := chk_some e4
    unfold mRunInit
    simp [bnd, ret, lft, nwp, e1, e2, e3, e4, few, pin, run0]
theorem runInit_ok {isn : Net → Option Bool} {fst : Net → Option State} {dry : Net → Option (List Int)} (T : RunT K C) {vs : List V} {H : Hp} {Q : VK} {E : XK} (h : spRunInit C isn fst dry vs H Q E) : tRunInit K isn fst dry { nx := fun _ H' => Q .non H', rt := Q } (start ["self", "net", "vessel"] vs) H := by
  obtain ⟨p, dx, F, O, vn, net, b, rfl, r, W, hb, k⟩ := h
  exact run_init T r ((), ()) ((), b) (mRunInit_eq hb) F H [(p, .ins C dx [])] O (SameR _) ⟨[(p, .ins C dx [])], [], rfl, ⟨p, dx, rfl, rfl⟩, rfl⟩ W _ fun F' H' c' σ' s' o' W' _ => k F' H' c' s' o' W'
end
end T

/-! T19: what the generator needs of Runs, of constants that are tuples; a head that tells such constants. -/
namespace T
open PySem L2
section
variable {S α β γ : Type} {R : Rl α} {K : PySem.W.Frag} {σ : L2.St} {F : Hp} {A : Ow S} {te : TE}
theorem ev_unopt {m : M S (Option α)} (h : Ev te σ F A (rOpt R) m) : Ev te σ F A R (bnd m fun o => lft o) := fun s b s' hm F1 H c O sm ho W Q q => by
  obtain ⟨o, s1, h1, hm⟩ := bnd_some hm
  obtain ⟨rfl, rfl⟩ := lft_some hm
  exact h s (some b) _ h1 F1 H c O sm ho W _ fun v F2 H2 c2 s2 o2 W2 r2 => q v F2 H2 c2 s2 o2 W2 r2
/-- x in a constant tuple of texts -/
theorem ev_inW {a : Addr} {ws : List Str} {m : M S Str} (hs : ∀ H, SqT K H a (ws.map V.str)) (h : Ev te σ F A rStr m) : Ev (tOp (rIn K false) te (tC (.ref a))) σ F A rBool (bnd m fun x => ret (ws.any fun b => decide (b = x))) := fun s b s' hm F1 H c O sm ho W Q q => by
  obtain ⟨x, s1, h1, hm⟩ := bnd_some hm
  obtain ⟨rfl, rfl⟩ := ret_some hm
  refine h s x _ h1 F1 H c O sm ho W _ fun v F2 H2 c2 s2 o2 W2 r2 => ⟨a, _, rfl, .inr (hs H2), by rw [show v = .str x from r2]; rfl, by rw [List.all_map]; exact List.all_eq_true.mpr fun z _ => rfl, ?_⟩
  have e2 : inV v (ws.map V.str) = ws.any fun z => decide (z = x) := by
    rw [show v = .str x from r2]; unfold inV; rw [List.any_map]; congr 1 <;> funext z <;> exact eqV_str z x
  rw [e2]
  exact q _ F2 H2 c2 s2 o2 W2 rfl
theorem ok_PN {Q : VK} {t : TS} {F H : Hp} {O : Ch} {b : Unit} {m : M Unit Unit} (W : Wd F H O) (hm : rn m = some b) (q : ∀ v F' H', Same F F' → Wd F' H' O → rNone.r F' v b → Q v H') (h : B t σ F emp (pNx emp fun _ _ _ => True) m) : t { nx := fun _ H' => Q .non H', rt := Q } σ H :=
  h () (b, ()) (rn_some hm) F H [] O (SameR _) rfl W _ fun F' H' c' σ' s o w _ => q .non F' H' s (by rw [show c' = [] from o] at w; exact w) rfl
end
section
variable {X : Cx} {k j : Nat} {m : Str} {C : Addr} {ps : List Str} {sp : Sp} {pos apos : Pos} {o : Expr} {ta : TE}
theorem pe_knM0 {pl : Sem Bool} (ho : PE X o ta) (h : KnM X.prog X.w X.K X.mg X.base CX0 j m C ps sp) (hr : Room k X.A) (hj : j ≤ k)
    (ht : eval (.Call (.Attribute o m apos) [] [] pos) X.env = (do
      let ov ← eval o X.env
      standAt apos.atName
      let (f, first) ← holding [ov] (getMethod ov m pl)
      callWith pos f first (backTo pos (starEach [] X.env)) (backToKw pos (keywordEach [] X.env))) := by rfl) :
    PE X (.Call (.Attribute o m apos) [] [] pos) (tMeth C m sp [] E0 ta tNil) := by
  obtain ⟨f, fd, h1, h2, h3⟩ := h.ex
  exact pe_meth0 ho h.cl h1 h3 (hr.mono hj) h2 .nil pass0 ht
end
theorem vh_sum {K : PySem.W.Frag} : VH (L2.rSum K) rInt rInt (fun xs => some xs.sum) := fun F H O l vs xs b W h rp hf Q q => by
  cases hf
  exact ⟨l, xs, rfl, SqL.of (by rw [← vs_int rp]; exact h), q _ F H (SameR _) W rfl⟩
/-! promises of a Run's methods -/
abbrev spRun0 {γ : Type} (C : Addr) (U : Rl γ) (f : M RunS γ) : Sp := spS (fun v => arOne (rV v)) (oRun C) U (fun _ => f)
abbrev spRun1 {γ : Type} (C : Addr) (U : Rl γ) (f : Int → M RunS γ) : Sp := spS (fun v => arC (rV v) (arOne rInt)) (oRun C) U (fun x => f x.2)
abbrev spRun2 {γ : Type} (C : Addr) (U : Rl γ) (f : Int → Int → M RunS γ) : Sp := spS (fun v => arC (rV v) (arC rInt (arOne rInt))) (oRun C) U (fun x => f x.2.1 x.2.2)
theorem pe_globI {X : Cx} {x : Str} {i : Int} {pos : Pos} (hg : Gl X x) (hm : ∃ t, X.mg x = some (.int i t)) (hd : (x == ("__debug__" : Str)) = false := by decide) : PE X (.Name x pos) (tC (.int i)) := by
  obtain ⟨t, h⟩ := hm
  exact pe_glob hg h ⟨t, rfl⟩ hd
/-! a loop whose turns may return and bind an owned name anew -/
section
variable {S S0 S1 ι α β γ Z Ω : Type} {R : Rl α} {R' : Rl β} {σ : L2.St} {F : Hp} {t w : TS}
theorem b_forEI {A : ι → Ow S} (i0 : ι) {wi : TI} {g : TG} {f : Z → α → S → Option (Fl (Z × S) (β × S0))} {z0 : Z} {Sl : Z → ι → Hp → L2.St → Prop} {X : Ow S0} {h : Z → S → Option (β × S0)} {ml : M S (List α)} (hi : EvI wi σ F (A i0) R ml) (h0 : ∀ F', Same F F' → Sl z0 i0 F' σ)
    (hb : ∀ z i x v F' σ', Same F F' → Sl z i F' σ' → R.r F' v x → B (tGo g v t) σ' F' (A i) (pFlI A Sl X R') (f z x)) (k : ∀ z i F' σ', Same F F' → Sl z i F' σ' → B w σ' F' (A i) (pRt X R') (h z))
    (hS : ∀ z i F F' σ', Same F F' → Sl z i F σ' → Sl z i F' σ') : B (tSeq (tFor wi g t) w) σ F (A i0) (pRt X R') (bnd ml fun xs => fthn (fdE f z0 xs) h) := fun s r hm F1 H c O sm ho W D q => by
  obtain ⟨xs, s1, h1, hm⟩ := bnd_some hm
  unfold fthn at hm
  cases e0 : fdE f z0 xs s1 with
  | none => rw [e0] at hm; cases hm
  | some fl =>
    rw [e0] at hm
    refine hi s xs s1 h1 F1 H c O sm ho W _ fun J F2 H2 c2 sm2 o2 W2 ⟨G, Y, wk, hG, hY⟩ => ?_
    refine for_it wk (fun n σ3 H3 => ∃ i z s3 F3 c3, Same F2 F3 ∧ (A i).o F3 s3 c3 ∧ Wd F3 H3 (c3 ++ O) ∧ Sl z i F3 σ3 ∧ fdE f z (xs.drop n) s3 = some fl) ?_ ?_ ?_ ?_
    · exact ⟨i0, z0, s1, F2, c2, SameR _, o2, W2, h0 F2 (sm.trans sm2), e0⟩
    · rintro n σ3 H3 _ ⟨i, z, s3, F3, c3, sm3, o3, W3, _⟩
      exact hG F3 H3 sm3 W3.sub
    · rintro n x σ3 H3 H4 hlt ⟨i, z, s3, F3, c3, sm3, o3, W3, sl, hfd⟩ y
      obtain ⟨F4, sm4, W4, a, ha, ra⟩ := hY n H3 x H4 hlt y F3 _ sm3 W3
      rcases fdE_cons ha hfd with ⟨q', e1, e2⟩ | ⟨b, e1, e2⟩
      · exact hb z i a x F4 σ3 ((sm.trans sm2).trans (sm3.trans sm4)) (hS _ _ _ _ _ sm4 sl) ra s3 _ e1 F4 H4 c3 O (SameR _) ((A i).mono sm4 o3) W4 _ fun i5 F5 H5 c5 σ5 s5 o5 W5 sl5 => ⟨i5, q'.1, q'.2, F5, c5, sm3.trans (sm4.trans s5), o5, W5, sl5, e2⟩
      · subst e2
        obtain rfl : b = r := Option.some.inj hm
        exact hb z i a x F4 σ3 ((sm.trans sm2).trans (sm3.trans sm4)) (hS _ _ _ _ _ sm4 sl) ra s3 _ e1 F4 H4 c3 O (SameR _) ((A i).mono sm4 o3) W4 _ ((pRt X R').mono (sm2.trans (sm3.trans sm4)) q)
    · rintro σ3 H3 ⟨i, z, s3, F3, c3, sm3, o3, W3, sl, hfd⟩
      rw [List.drop_of_length_le (Nat.le_refl _)] at hfd
      obtain rfl : Fl.nx (z, s3) = fl := by rw [fdE] at hfd; exact Option.some.inj hfd
      exact k z i F3 σ3 ((sm.trans sm2).trans sm3) sl s3 r hm F3 H3 c3 O (SameR _) o3 W3 D ((pRt X R').mono (sm2.trans sm3) q)
end
section
variable {S γ : Type} {U : Rl γ} {C : Addr} {σ : L2.St} {F : Hp} {A : Ow S} {mn : Str} {v : V} {j : Nat} {E : XK} {g : S → RunS} {p : S → RunS → S}
theorem ev_run0 {f : M RunS γ} (hl : InsHd (oRun C) C mn) (hv : σ[j]? = some (some v)) (e : Emb A (oRun C v) g p) : Ev (tMeth C mn (spRun0 C U f) [] E (tVar j) tNil) σ F A U (zm g p f) := ev_meth0S hl hv e
theorem ev_run1 {f : Int → M RunS γ} {ar : TA} {ma : M S Int} (hl : InsHd (oRun C) C mn) (hv : σ[j]? = some (some v)) (e : Emb A (oRun C v) g p) (h : EvA ar σ F A (arOne rInt) ma) : Ev (tMeth C mn (spRun1 C U f) [] E (tVar j) ar) σ F A U (bnd ma fun x => zm g p (f x)) := ev_methS (f := f) hl hv e h
theorem ev_run2 {f : Int → Int → M RunS γ} {ar : TA} {ma : M S (Int × Int)} (hl : InsHd (oRun C) C mn) (hv : σ[j]? = some (some v)) (e : Emb A (oRun C v) g p) (h : EvA ar σ F A (arC rInt (arOne rInt)) ma) : Ev (tMeth C mn (spRun2 C U f) [] E (tVar j) ar) σ F A U (bnd ma fun x => zm g p (f x.1 x.2)) := ev_methS (f := fun x => f x.1 x.2) hl hv e h
end
section
variable {S S0 S1 ι β Z : Type} {R' : Rl β} {σ : L2.St} {F : Hp} {A : Ow S} {tt : TT} {t w : TS}
theorem b_ifRFI {mb : M S Bool} {X : ι → Ow S1} {Y : Ow S0} {Sl : Z → ι → Hp → L2.St → Prop} {f : S → Option (β × S0)} {g : S → Option (Fl (Z × S1) (β × S0))} (hc : EvT tt σ F A mb) (ht : B t σ F A (pRt Y R') f) (hw : B w σ F A (pFlI X Sl Y R') g) :
    B (tSeq (tIfS tt t tNext) w) σ F A (pFlI X Sl Y R') (bnd mb fun b => bif b then rtF f else g) := fun s r hm F1 H c O sm ho W D q => by
  obtain ⟨b, s1, h1, hm⟩ := bnd_some hm
  refine hc s b s1 h1 F1 H c O sm ho W _ fun F2 H2 c2 s2 o2 W2 => ?_
  cases b with
  | true =>
    simp only [cond_true] at hm
    unfold rtF at hm
    cases e1 : f s1 with
    | none => rw [e1] at hm; cases hm
    | some r' => rw [e1] at hm; cases hm; exact iteT (ht s1 r' e1 F2 H2 c2 O (sm.trans s2) o2 W2 _ ((pRt Y R').mono s2 q))
  | false => exact iteF (hw s1 r hm F2 H2 c2 O (sm.trans s2) o2 W2 D ((pFlI X Sl Y R').mono s2 q))
end
/-! a head that tells constants, too -/
def obsT (tb : List (Str × List He.Dv)) (fa : List He.Fa) (fn : List He.DefD) (K : PySem.W.Frag) : Bool × He.AlD := (tb.all fun q => He.tupB K q.1 q.2, He.obsD fa fn K)
def valT (fn : List He.DefD) : Bool × He.AlD := (true, He.valD fn)
def SaysT (tb : List (Str × List He.Dv)) (fa : List He.Fa) (fn : List He.DefD) (K : PySem.W.Frag) : Prop := obsT tb fa fn K = valT fn
def hookT (n : Nat) (tb : List (Str × List He.Dv)) (fa : List He.Fa) (fn : List He.DefD) : PySem.W.Hook where
  α := Bool × He.AlD
  obs s := obsT tb fa fn (He.frG s.heap.get? (He.asD s.heap.get? n))
  val _ := valT fn
  says _ h := ∃ K1 : PySem.W.Frag, K1.In h ∧ SaysT tb fa fn K1
  of _ _ e := ⟨_, He.frG_in, e⟩
  keeps _ _ _ z k := by
    obtain ⟨K1, h1, c1⟩ := z
    exact ⟨K1, PySem.W.Frag.In.keeps h1 k, c1⟩
theorem obsT_eq {n : Nat} {tb : List (Str × List He.Dv)} {fa : List He.Fa} {fn : List He.DefD} {g : Addr → Option Obj} {s : Shared} (h : ∀ a, g a = s.heap.get? a) : obsT tb fa fn (He.frG g (He.asD g n)) = (hookT n tb fa fn).obs s := by
  obtain rfl : g = s.heap.get? := funext h
  rfl
theorem SaysT.D {tb : List (Str × List He.Dv)} {fa : List He.Fa} {fn : List He.DefD} {K : PySem.W.Frag} (c : SaysT tb fa fn K) : He.SaysD fa fn K := congrArg Prod.snd c
theorem SaysT.tup {tb : List (Str × List He.Dv)} {fa : List He.Fa} {fn : List He.DefD} {K : PySem.W.Frag} (c : SaysT tb fa fn K) (i : Nat) {x : Str} {vs : List He.Dv} (h : tb[i]? = some (x, vs) := by rfl) (H : Hp) : SqT K H (He.ga K x) (vs.map (He.Dv.v K)) := by
  have c1 : (tb.all fun q => He.tupB K q.1 q.2) = true := congrArg Prod.fst c
  exact He.tupB_ok (List.all_eq_true.mp c1 (x, vs) (List.mem_of_getElem? h)) H
end T

/-! T20: pools: many owned things of one kind, told by their places. -/
namespace T
open PySem L2
section
variable {T' : Type}
def poolO (Bf : V → Ow T') : List V → Hp → List T' → Ch → Prop
  | [], _, xs, c => xs = [] ∧ c = []
  | v :: vs, F, xs, c => ∃ x xr c1 c2, xs = x :: xr ∧ c = c1 ++ c2 ∧ (Bf v).o F x c1 ∧ poolO Bf vs F xr c2
theorem poolO_mono {Bf : V → Ow T'} {F F' : Hp} (s : Same F F') : ∀ {vs xs c}, poolO Bf vs F xs c → poolO Bf vs F' xs c
  | [], _, _, h => h
  | v :: vs, _, _, ⟨x, xr, c1, c2, e1, e2, h, r⟩ => ⟨x, xr, c1, c2, e1, e2, (Bf v).mono s h, poolO_mono s r⟩
def oPool (Bf : V → Ow T') (ps : List V) : Ow (List T') := ⟨fun F xs c => poolO Bf ps F xs c, fun s h => poolO_mono s h⟩
theorem pool_at {Bf : V → Ow T'} {F : Hp} {v : V} : ∀ {ps xs c} {k : Nat}, poolO Bf ps F xs c → ps[k]? = some v → ∃ x, xs[k]? = some x ∧ ∃ c1 c2, c.Perm (c1 ++ c2) ∧ (Bf v).o F x c1 ∧
    ∀ F' x' c1', Same F F' → (Bf v).o F' x' c1' → ∃ c', poolO Bf ps F' (xs.set k x') c' ∧ c'.Perm (c1' ++ c2)
  | [], _, _, k, _, e => by simp at e
  | w :: vs, _, _, 0, ⟨x, xr, c1, c2, e1, e2, h, r⟩, e => by
    obtain rfl : w = v := by simpa using e
    subst e1 e2
    exact ⟨x, rfl, c1, c2, List.Perm.refl _, h, fun F' x' c1' s h' => ⟨c1' ++ c2, ⟨x', xr, c1', c2, rfl, rfl, h', poolO_mono s r⟩, List.Perm.refl _⟩⟩
  | w :: vs, _, _, k + 1, ⟨x, xr, c1, c2, e1, e2, h, r⟩, e => by
    subst e1 e2
    obtain ⟨y, hy, d1, d2, pm, hb, kk⟩ := pool_at r (by simpa using e)
    refine ⟨y, by simpa using hy, d1, c1 ++ d2, ?_, hb, fun F' x' c1' s h' => ?_⟩
    · exact ((pm.append_left c1).trans (by rw [← List.append_assoc, ← List.append_assoc]; exact List.perm_append_comm.append_right d2))
    · obtain ⟨c', o', pm'⟩ := kk F' x' c1' s h'
      refine ⟨c1 ++ c', ⟨x, _, c1, c', by simp, rfl, (Bf w).mono s h, o'⟩, ?_⟩
      exact ((pm'.append_left c1).trans (by rw [← List.append_assoc, ← List.append_assoc]; exact List.perm_append_comm.append_right d2))
theorem pool_push {Bf : V → Ow T'} {F F' : Hp} {v : V} {x : T'} {cb : Ch} (s : Same F F') (hb : (Bf v).o F' x cb) : ∀ {ps xs c}, poolO Bf ps F xs c → poolO Bf (ps ++ [v]) F' (xs ++ [x]) (c ++ cb)
  | [], _, _, ⟨e1, e2⟩ => by subst e1 e2; exact ⟨x, [], cb, [], rfl, by simp, hb, rfl, rfl⟩
  | w :: vs, _, _, ⟨y, xr, c1, c2, e1, e2, h, r⟩ => by subst e1 e2; exact ⟨y, xr ++ [x], c1, c2 ++ cb, by simp, by simp, (Bf w).mono s h, pool_push s hb r⟩
theorem pool_len {Bf : V → Ow T'} {F : Hp} : ∀ {ps xs c}, poolO Bf ps F xs c → xs.length = ps.length
  | [], _, _, ⟨e1, _⟩ => by subst e1; rfl
  | w :: vs, _, _, ⟨y, xr, c1, c2, e1, e2, h, r⟩ => by subst e1; simp [pool_len r]
/-- the k-th of a pool -/
def rRef (ps : List V) : Rl Int := ⟨fun _ v k => 0 ≤ k ∧ ps[k.toNat]? = some v, fun _ h => h⟩
theorem rref_up {ps qs : List V} {F : Hp} {v : V} {k : Int} (h : (rRef ps).r F v k) : (rRef (ps ++ qs)).r F v k := ⟨h.1, by
  have := (List.getElem?_eq_some_iff.mp h.2).1
  rw [List.getElem?_append_left this]; exact h.2⟩
end
def zmI {S T β : Type} (g : S → List T) (p : S → List T → S) (k : Int) (m : M T β) : M S β := fun s => ((g s)[k.toNat]?).bind fun t => (m t).map fun q => (q.1, p s ((g s).set k.toNat q.2))
theorem zmI_some {S T β : Type} {g : S → List T} {p : S → List T → S} {k : Int} {m : M T β} {s s' : S} {b : β} (h : zmI g p k m s = some (b, s')) : ∃ t t', (g s)[k.toNat]? = some t ∧ m t = some (b, t') ∧ s' = p s ((g s).set k.toNat t') := by
  unfold zmI at h
  cases e : (g s)[k.toNat]? with
  | none => rw [e] at h; cases h
  | some t =>
    rw [e] at h
    cases e2 : m t with
    | none => simp [e2] at h
    | some q => simp [e2] at h; obtain ⟨rfl, rfl⟩ := h; exact ⟨t, q.2, rfl, e2, rfl⟩
section
variable {S T' α β γ Ω : Type} {R : Rl α} {R' : Rl β} {U : Rl γ} {K : PySem.W.Frag} {σ : L2.St} {F : Hp} {A : Ow S} {te te0 ti ta : TE} {ar : TA} {u : TS} {P : Post Ω} {Bf : V → Ow T'} {ps : List V} {g : S → List T'} {p : S → List T' → S} {m0 : M S Int} {m : M S α} {C : Addr} {mn : Str} {E : XK}
/-- the k-th one taken out of the owned state -/
theorem emb_pool {F : Hp} {s : S} {c : Ch} {v : V} {k : Int} (e : Emb A (oPool Bf ps) g p) (ho : A.o F s c) (hk : (rRef ps).r F v k) : ∃ x, (g s)[k.toNat]? = some x ∧ ∃ c1 c2, c.Perm (c1 ++ c2) ∧ (Bf v).o F x c1 ∧
    ∀ F' x' c1', Same F F' → (Bf v).o F' x' c1' → ∃ c', A.o F' (p s ((g s).set k.toNat x')) c' ∧ c'.Perm (c1' ++ c2) := by
  obtain ⟨c1, c2, pm, ob, kk⟩ := e.split ho
  obtain ⟨x, hx, d1, d2, pm2, hb, kk2⟩ := pool_at ob hk.2
  refine ⟨x, hx, d1, d2 ++ c2, ?_, hb, fun F' x' c1' s' h' => ?_⟩
  · rw [← List.append_assoc]; exact pm.trans (pm2.append_right c2)
  · obtain ⟨c3, o3, pm3⟩ := kk2 F' x' c1' s' h'
    obtain ⟨c4, o4, pm4⟩ := kk F' _ c3 s' o3
    refine ⟨c4, o4, ?_⟩
    rw [← List.append_assoc]; exact pm4.trans (pm3.append_right c2)
theorem ev_methP {X : Ar α} {f : α → M T' γ} {ma : M S α} (hh : InsHd Bf C mn) (h0 : Ev te0 σ F A (rRef ps) m0) (e : Emb A (oPool Bf ps) g p) (h : EvA ar σ F A X ma) :
    Ev (tMeth C mn (spS (fun v => arC (rV v) X) Bf U (fun x => f x.2)) [] E te0 ar) σ F A U (bnd m0 fun k => bnd ma fun x => zmI g p k (f x)) := fun s b s' hm F1 H c O sm ho W Q q => by
  obtain ⟨k, s0, h0m, hm⟩ := bnd_some hm
  obtain ⟨xs, s1, h1, hm⟩ := bnd_some hm
  obtain ⟨t, t', ht, hf, rfl⟩ := zmI_some hm
  refine h0 s k s0 h0m F1 H c O sm ho W _ fun v F0 H0 c0 s0' o0 W0 r0 => ?_
  obtain ⟨x0, _, c3, c4, pm, ob, _⟩ := emb_pool e o0 r0
  obtain ⟨p0, dx, fs, rest, rfl, rfl, hl⟩ := hh.hd ob
  have W0' : Wd F0 H0 ((p0, .ins C dx fs) :: (rest ++ (c4 ++ O))) := by
    refine W0.perm ((pm.append_right O).trans ?_)
    simp
  refine ⟨p0, dx, fs, rfl, W0'.hd, hl, ?_⟩
  refine h s0 _ _ h1 F0 H0 c0 O (sm.trans s0') o0 W0 _ fun vs F2 H2 c2 s2 o2 W2 r2 => ?_
  obtain ⟨x, hx, c3', c4', pm', ob', k'⟩ := emb_pool e o2 ((rRef ps).mono s2 r0)
  rw [hx] at ht
  cases ht
  rw [List.append_nil]
  refine ⟨.ref p0, F2, c4' ++ O, c3', ((), xs), _, b, t', ⟨_, _, rfl, rfl, r2⟩, ob', W2.perm ?_, hf, fun v F3 H3 c5 s3 o3 W3 r3 => ?_⟩
  · rw [← List.append_assoc]; exact pm'.append_right O
  · obtain ⟨c', oc, pm2⟩ := k' F3 t' c5 s3 o3
    refine q v F3 H3 c' (s0'.trans (s2.trans s3)) oc (W3.perm ?_) r3
    rw [← List.append_assoc]; exact (pm2.append_right O).symm
theorem ev_meth0P {f : M T' γ} (hh : InsHd Bf C mn) (h0 : Ev te0 σ F A (rRef ps) m0) (e : Emb A (oPool Bf ps) g p) :
    Ev (tMeth C mn (spS (fun v => arOne (rV v)) Bf U (fun _ => f)) [] E te0 tNil) σ F A U (bnd m0 fun k => zmI g p k f) := fun s b s' hm F1 H c O sm ho W Q q => by
  obtain ⟨k, s0, h0m, hm⟩ := bnd_some hm
  obtain ⟨t, t', ht, hf, rfl⟩ := zmI_some hm
  refine h0 s k s0 h0m F1 H c O sm ho W _ fun v F0 H0 c0 s0' o0 W0 r0 => ?_
  obtain ⟨x0, hx, c3, c4, pm, ob, k'⟩ := emb_pool e o0 r0
  obtain ⟨p0, dx, fs, rest, rfl, rfl, hl⟩ := hh.hd ob
  rw [hx] at ht
  cases ht
  have W0' : Wd F0 H0 ((p0, .ins C dx fs) :: (rest ++ (c4 ++ O))) := by
    refine W0.perm ((pm.append_right O).trans ?_)
    simp
  refine ⟨p0, dx, fs, rfl, W0'.hd, hl, ?_⟩
  refine ⟨.ref p0, F0, c4 ++ O, (p0, .ins C dx fs) :: rest, (), _, b, t', ⟨_, rfl, rfl⟩, ob, W0.perm ?_, hf, fun v F3 H3 c5 s3 o3 W3 r3 => ?_⟩
  · rw [← List.append_assoc]; exact pm.append_right O
  · obtain ⟨c', oc, pm2⟩ := k' F3 t' c5 s3 o3
    refine q v F3 H3 c' (s0'.trans s3) oc (W3.perm ?_) r3
    rw [← List.append_assoc]; exact (pm2.append_right O).symm
/-- a def handed the k-th one -/
theorem ev_callP_at {X : Ar α} {X' : V → Ar β} {f : β → M T' γ} {ma : M S α} (ix : α → Int) (cv : α → β) (hc : ∀ F vs x, X.r F vs x → ∃ v, (rRef ps).r F v (ix x) ∧ (X' v).r F vs (cv x)) (e : Emb A (oPool Bf ps) g p) (h : EvA ar σ F A X ma) :
    Ev (tCall (spS X' Bf U f) [] E ar) σ F A U (bnd ma fun x => zmI g p (ix x) (f (cv x))) := fun s b s' hm F1 H c O sm ho W Q q => by
  obtain ⟨xs, s1, h1, hm⟩ := bnd_some hm
  obtain ⟨t, t', ht, hf, rfl⟩ := zmI_some hm
  refine h s _ _ h1 F1 H c O sm ho W _ fun vs F2 H2 c2 s2 o2 W2 r2 => ?_
  obtain ⟨v, rv, r3⟩ := hc F2 vs xs r2
  obtain ⟨x, hx, c3', c4', pm', ob', k'⟩ := emb_pool e o2 rv
  rw [hx] at ht
  cases ht
  rw [List.append_nil]
  refine ⟨v, F2, c4' ++ O, c3', cv xs, _, b, t', r3, ob', W2.perm ?_, hf, fun v F3 H3 c5 s3 o3 W3 r3 => ?_⟩
  · rw [← List.append_assoc]; exact pm'.append_right O
  · obtain ⟨c', oc, pm2⟩ := k' F3 t' c5 s3 o3
    refine q v F3 H3 c' (s2.trans s3) oc (W3.perm ?_) r3
    rw [← List.append_assoc]; exact (pm2.append_right O).symm
/-! new ones -/
/-- the pool, with one more behind -/
theorem emb_push {A' : Ow S} {F F' : Hp} {s : S} {c cb : Ch} {v : V} {x : T'} (hp : ∀ {F : Hp} {s : S} {c : Ch}, A.o F s c → ∃ c1 c2, c.Perm (c1 ++ c2) ∧ poolO Bf ps F (g s) c1 ∧ ∀ F' t c1', Same F F' → poolO Bf (ps ++ [v]) F' t c1' → ∃ c', A'.o F' (p s t) c' ∧ c'.Perm (c1' ++ c2))
    (sm : Same F F') (ho : A.o F s c) (hb : (Bf v).o F' x cb) : ∃ c', A'.o F' (p s (g s ++ [x])) c' ∧ c'.Perm (c ++ cb) := by
  obtain ⟨c1, c2, pm, hpo, k⟩ := hp ho
  obtain ⟨c', o', pm'⟩ := k F' _ _ sm (pool_push sm hb hpo)
  refine ⟨c', o', pm'.trans ?_⟩
  have p1 : (c1 ++ cb ++ c2).Perm (c1 ++ c2 ++ cb) := by
    rw [List.append_assoc, List.append_assoc]; exact List.perm_append_comm.append_left c1
  exact p1.trans (pm.symm.append_right cb)
end
/-- an empty pool -/
def wp {S T Ω : Type} (f : S × List T → Option Ω) : S → Option Ω := fun s => f (s, [])
theorem b_pool {S T' Ω : Type} {σ : L2.St} {F : Hp} {A : Ow S} {u : TS} {P : Post Ω} {f : S × List T' → Option Ω} (Bf : V → Ow T') (k : B u σ F (star A (oPool Bf [])) P f) : B u σ F A P (wp f) := fun s w hm F1 H c O sm ho W D q =>
  k (s, []) w hm F1 H c O sm ⟨c, [], by simp, ho, rfl, rfl⟩ W D q
/-- A with a pool, the pool's places open -/
structure EmbP {S T' : Type} (A : List V → Ow S) (Bf : V → Ow T') (g : S → List T') (p : S → List T' → S) : Prop where
  split : ∀ {ps : List V} {F : Hp} {s : S} {c : Ch}, (A ps).o F s c → ∃ c1 c2, c.Perm (c1 ++ c2) ∧ poolO Bf ps F (g s) c1 ∧ ∀ ps' F' t c1', Same F F' → poolO Bf ps' F' t c1' → ∃ c', (A ps').o F' (p s t) c' ∧ c'.Perm (c1' ++ c2)
theorem embP_0 {T' : Type} {Bf : V → Ow T'} : EmbP (fun ps => oPool Bf ps) Bf (fun s => s) (fun _ t => t) := ⟨fun {ps F s c} h => ⟨c, [], by simp, h, fun ps' F' t c1' _ h' => ⟨c1', h', by simp⟩⟩⟩
theorem embP_r {S T' : Type} {A : Ow S} {Bf : V → Ow T'} : EmbP (fun ps => star A (oPool Bf ps)) Bf (fun s => s.2) (fun s t => (s.1, t)) := ⟨fun {ps F s c} ⟨c1, c2, e, a, b⟩ => ⟨c2, c1, by rw [e]; exact List.perm_append_comm, b, fun ps' F' t c1' sm h' => ⟨c1 ++ c1', ⟨c1, c1', rfl, A.mono sm a, h'⟩, List.perm_append_comm⟩⟩⟩
theorem embP_l {S T' U : Type} {A : List V → Ow S} {C : Ow U} {Bf : V → Ow T'} {g : S → List T'} {p : S → List T' → S} (e : EmbP A Bf g p) : EmbP (fun ps => star (A ps) C) Bf (fun s => g s.1) (fun s t => (p s.1 t, s.2)) := ⟨fun {ps F s c} ⟨ca, cb, ec, ha, hb⟩ => by
  obtain ⟨c1, c2, pm, h1, k⟩ := e.split ha
  refine ⟨c1, c2 ++ cb, by rw [ec, ← List.append_assoc]; exact pm.append_right cb, h1, fun ps' F' t c1' sm h' => ?_⟩
  obtain ⟨c', h2, pm2⟩ := k ps' F' t c1' sm h'
  exact ⟨c' ++ cb, ⟨c', cb, rfl, h2, C.mono sm hb⟩, by rw [← List.append_assoc]; exact pm2.append_right cb⟩⟩
theorem EmbP.at {S T' : Type} {A : List V → Ow S} {Bf : V → Ow T'} {g : S → List T'} {p : S → List T' → S} (e : EmbP A Bf g p) (ps : List V) : Emb (A ps) (oPool Bf ps) g p := ⟨fun h => by
  obtain ⟨c1, c2, pm, h1, k⟩ := e.split h
  exact ⟨c1, c2, pm, h1, fun F' t c1' sm h' => k ps F' t c1' sm h'⟩⟩
section
variable {S T' α β γ Ω : Type} {R : Rl α} {K : PySem.W.Frag} {σ : L2.St} {F : Hp} {te ta : TE} {u : TS} {P : Post Ω} {Bf : V → Ow T'} {A : List V → Ow S} {ps : List V} {g : S → List T'} {p : S → List T' → S} {i : Nat}
/-- the pool, with x behind, and x's place handed on -/
def psh {S T Ω : Type} (g : S → List T) (p : S → List T → S) (f : Int → S → Option Ω) (x : T) : S → Option Ω := fun s => f (g s).length (p s (g s ++ [x]))
/-- a new thing at a name, kept in the pool -/
theorem b_newP {m : M S T'} {f : Int → S → Option Ω} (he : EvO te σ F (A ps) Bf m) (e : EmbP A Bf g p) (k : ∀ v n F', Same F F' → (rRef (ps ++ [v])).r F' v n → B u (σ.set i (some v)) F' (A (ps ++ [v])) P (f n)) : B (tSeq (tAsg te (gName i)) u) σ F (A ps) P (bnd m (psh g p f)) := fun s w hm F1 H c O sm ho W D q => by
  obtain ⟨x, s1, h1, hm⟩ := bnd_some hm
  refine he s x s1 h1 F1 H c O sm ho W _ fun v F2 H2 c2 cb s2 o2 ob W2 => ?_
  obtain ⟨c', o', pm⟩ := emb_push (A := A ps) (A' := A (ps ++ [v])) (fun h => by
    obtain ⟨c1, c2, pm, h1, k⟩ := e.split h
    exact ⟨c1, c2, pm, h1, fun F' t c1' sm h' => k _ F' t c1' sm h'⟩) (SameR _) o2 ob
  obtain ⟨c1, c3, pm3, hpo, _⟩ := e.split o2
  have hl := pool_len hpo
  refine k v (g s1).length F2 (sm.trans s2) ⟨by omega, by rw [Int.toNat_natCast, hl]; simp⟩ _ w hm F2 H2 c' O (SameR _) o' (W2.perm ?_) D (P.mono s2 q)
  refine List.Perm.trans ?_ (pm.append_right O).symm
  rw [← List.append_assoc]; exact List.perm_append_comm.append_right O
/-! lists of new things -/
def EvNs {β : Type} (ar : TA) (σ : L2.St) (F : Hp) (A : Ow S) (Bf : V → Ow β) (m : M S (List β)) : Prop := ∀ s xs s', m s = some (xs, s') → ∀ F1 H c O, Same F F1 → A.o F1 s c → Wd F1 H (c ++ O) → ∀ Q : List V → Hp → Prop,
  (∀ vs F' H' c' cb, Same F1 F' → A.o F' s' c' → poolO Bf vs F' xs cb → Wd F' H' (cb ++ (c' ++ O)) → Q vs H') → ar σ H Q
/-- a list of new things, the list frozen -/
def EvNl {β : Type} (te : TE) (σ : L2.St) (F : Hp) (A : Ow S) (Bf : V → Ow β) (m : M S (List β)) : Prop := ∀ s xs s', m s = some (xs, s') → ∀ F1 H c O, Same F F1 → A.o F1 s c → Wd F1 H (c ++ O) → ∀ Q : VK,
  (∀ l vs F' H' c' cb, Same F1 F' → A.o F' s' c' → poolO Bf vs F' xs cb → F' l = some (.lst vs) → Wd F' H' (cb ++ (c' ++ O)) → Q (.ref l) H') → te σ H Q
end
section
variable {S T' α β γ Ω : Type} {R : Rl α} {K : PySem.W.Frag} {σ : L2.St} {F : Hp} {te ta : TE} {ar : TA} {u : TS} {P : Post Ω} {Bf : V → Ow T'} {A : Ow S} {i : Nat}
theorem ens_nil : EvNs tNil σ F A Bf (ret []) := fun s xs s' hm F1 H c O sm ho W Q q => by
  obtain ⟨rfl, rfl⟩ := ret_some hm
  exact q [] F1 H c [] (SameR _) ho ⟨rfl, rfl⟩ W
theorem ens_cons {m : M S T'} {ms : M S (List T')} (h : EvO te σ F A Bf m) (k : EvNs ar σ F A Bf ms) : EvNs (tCons te ar) σ F A Bf (bnd m fun x => bnd ms fun xs => ret (x :: xs)) := fun s xs s' hm F1 H c O sm ho W Q q => by
  obtain ⟨x, s1, h1, hm⟩ := bnd_some hm
  obtain ⟨ys, s2, h2, hm⟩ := bnd_some hm
  obtain ⟨rfl, rfl⟩ := ret_some hm
  refine h s x s1 h1 F1 H c O sm ho W _ fun v F2 H2 c2 cb s2' o2 ob W2 => ?_
  have W3 : Wd F2 H2 (c2 ++ (cb ++ O)) := W2.perm (by rw [← List.append_assoc, ← List.append_assoc]; exact List.perm_append_comm.append_right O)
  refine k s1 ys _ h2 F2 H2 c2 (cb ++ O) (sm.trans s2') o2 W3 _ fun vs F3 H3 c3 cb3 s3 o3 op W4 => ?_
  refine q (v :: vs) F3 H3 c3 (cb ++ cb3) (s2'.trans s3) o3 ⟨x, ys, cb, cb3, rfl, rfl, (Bf v).mono s3 ob, op⟩ (W4.perm ?_)
  have sw : ∀ X Y Z : Ch, (X ++ (Y ++ Z)).Perm (Y ++ (X ++ Z)) := fun X Y Z => by
    rw [← List.append_assoc, ← List.append_assoc]; exact List.perm_append_comm.append_right Z
  have p1 : (cb3 ++ (c3 ++ (cb ++ O))).Perm (cb ++ (cb3 ++ (c3 ++ O))) := ((sw c3 cb O).append_left cb3).trans (sw cb3 cb _)
  rw [List.append_assoc]; exact p1
theorem poolO_len {F : Hp} {vs : List V} {xs : List T'} {c : Ch} (h : poolO Bf vs F xs c) : xs.length = vs.length := pool_len h
theorem evp_lst {ms : M S (List T')} (k : EvNs ar σ F A Bf ms) : EvNl (tLst ar) σ F A Bf (bnd ms fun xs => lft (few xs)) := fun s xs s' hm F1 H c O sm ho W Q q => by
  obtain ⟨ys, s1, h1, hm⟩ := bnd_some hm
  obtain ⟨h2, e2⟩ := lft_some hm
  subst e2
  have hf : ys = xs ∧ ys.length ≤ 100 := by
    unfold few at h2; split at h2
    · cases h2; exact ⟨rfl, by assumption⟩
    · cases h2
  obtain ⟨rfl, hl⟩ := hf
  refine k s ys _ h1 F1 H c O sm ho W _ fun vs F2 H2 c2 cb s2 o2 op W2 => ⟨?_, fun l nl => ?_⟩
  · rw [← pool_len op]; exact Nat.le_trans hl (by decide)
  · have sF := W2.sameF (o := .lst vs) nl
    exact q l vs _ _ c2 cb (s2.trans sF) (A.mono sF o2) (poolO_mono sF op) upd_same (W2.newF nl)
end
section
variable {S T' α β γ Ω : Type} {R : Rl α} {K : PySem.W.Frag} {σ : L2.St} {F : Hp} {te ta : TE} {ar : TA} {u : TS} {P : Post Ω} {Bf : V → Ow T'} {A : List V → Ow S} {ps : List V} {g : S → List T'} {p : S → List T' → S} {i : Nat}
theorem poolO_app {F : Hp} : ∀ {vs ws : List V} {xs ys : List T'} {c d : Ch}, poolO Bf vs F xs c → poolO Bf ws F ys d → poolO Bf (vs ++ ws) F (xs ++ ys) (c ++ d)
  | [], _, _, _, _, _, ⟨e1, e2⟩, h => by subst e1 e2; exact h
  | v :: vs, ws, _, ys, _, d, ⟨x, xr, c1, c2, e1, e2, h1, r⟩, h => by subst e1 e2; exact ⟨x, xr ++ ys, c1, c2 ++ d, by simp, by simp, h1, poolO_app r h⟩
def pshL {S T Ω : Type} (g : S → List T) (p : S → List T → S) (f : List Int → S → Option Ω) (xs : List T) : S → Option Ω := fun s => f (rngL (g s).length xs.length) (p s (g s ++ xs))
theorem paired_rref {qs : List V} {F : Hp} : ∀ (vs : List V) (ps : List V), qs = ps ++ vs → Paired ((rRef qs).r F) vs (rngL ps.length vs.length)
  | [], _, _ => .nil
  | v :: vs, ps, e => by
    refine .cons ⟨by omega, by subst e; simp⟩ ?_
    have := paired_rref (qs := qs) (F := F) vs (ps ++ [v]) (by rw [e]; simp)
    have e2 : (((ps ++ [v]).length : Nat) : Int) = (ps.length : Int) + 1 := by rw [List.length_append]; rfl
    rw [e2] at this; exact this
/-- a list of new things at a name, kept in the pool -/
theorem b_newL {m : M S (List T')} {f : List Int → S → Option Ω} (he : EvNl te σ F (A ps) Bf m) (e : EmbP A Bf g p) (k : ∀ v vs ns F', Same F F' → (rLst (rRef (ps ++ vs))).r F' v ns → B u (σ.set i (some v)) F' (A (ps ++ vs)) P (f ns)) :
    B (tSeq (tAsg te (gName i)) u) σ F (A ps) P (bnd m (pshL g p f)) := fun s w hm F1 H c O sm ho W D q => by
  obtain ⟨xs, s1, h1, hm⟩ := bnd_some hm
  refine he s xs s1 h1 F1 H c O sm ho W _ fun l vs F2 H2 c2 cb s2 o2 ob hl W2 => ?_
  obtain ⟨c1, c3, pm, hpo, kk⟩ := e.split o2
  obtain ⟨c', o', pm'⟩ := kk (ps ++ vs) F2 _ _ (SameR _) (poolO_app hpo ob)
  refine k (.ref l) vs _ F2 (sm.trans s2) ⟨l, vs, rfl, hl, ?_⟩ _ w hm F2 H2 c' O (SameR _) o' (W2.perm ?_) D (P.mono s2 q)
  · rw [pool_len hpo, pool_len ob]; exact paired_rref vs ps rfl
  · refine List.Perm.trans ?_ (pm'.append_right O).symm
    have p1 : (c1 ++ cb ++ c3).Perm (cb ++ c2) := by
      refine (List.perm_append_comm.append_right c3).trans ?_
      rw [List.append_assoc]; exact (pm.symm).append_left cb
    rw [← List.append_assoc]; exact (p1.symm).append_right O
end
/-! comprehensions of new things -/
section
variable {S T' α β γ Ω : Type} {R : Rl α} {K : PySem.W.Frag} {σ : L2.St} {F : Hp} {te ta : TE} {ar : TA} {u : TS} {P : Post Ω} {Bf : V → Ow T'} {A : Ow S} {i : Nat} {ml : M S (List α)} {wi : TI} {g : TG} {vs : List Nat}
theorem enl_lc {f : α → M S T'} {k : V → α → Hp → L2.St → Prop} (hi : EvI wi σ F A R ml) (hg : ∀ v x F', Same F F' → R.r F' v x → Go g v (wipe σ vs) F' (k v x F')) (hw : ∀ v x F' σ2, k v x F' σ2 → wipe σ2 vs = wipe σ vs) (he : ∀ v x F' σ2, Same F F' → R.r F' v x → k v x F' σ2 → EvO te σ2 F' A Bf (f x)) :
    EvNl (tLc wi g tYes te vs) σ F A Bf (bnd ml fun xs => bnd (lft (chk xs)) fun xs => mp f xs) := fun s ys s' hm F1 H c O sm ho W Q q => by
  obtain ⟨xs0, s1, h1, hm⟩ := bnd_some hm
  obtain ⟨xs, s1', h2, hm2⟩ := bnd_some hm
  obtain ⟨h2', rfl⟩ := lft_some h2
  obtain ⟨rfl, hlen⟩ := chk_some h2'
  refine hi s _ _ h1 F1 H c O sm ho W _ fun J F2 H2 c2 sm2 o2 W2 ⟨G, Y, wk, hG, hY⟩ D hD => ?_
  refine lc_it wk (fun i H3 => ∃ zs ws t F3 c3 cb us, Same F2 F3 ∧ A.o F3 t c3 ∧ poolO Bf us F3 zs cb ∧ Wd F3 H3 ((D, .lst us) :: (cb ++ (c3 ++ O))) ∧ mp f (xs.drop i) t = some (ws, s') ∧ ys = zs ++ ws ∧ zs.length ≤ i) ?_ ?_ ?_ ?_
  · exact ⟨[], ys, s1', F2, c2, [], [], SameR _, o2, ⟨rfl, rfl⟩, W2.newO hD, hm2, rfl, Nat.le_refl _⟩
  · rintro i H3 _ ⟨zs, ws, t, F3, c3, cb, us, s3, o3, op, W3, _⟩
    exact hG F3 H3 s3 W3.sub
  · rintro i x H3 H4 hi ⟨zs, ws, t, F3, c3, cb, us, s3, o3, op, W3, hmp, rfl, hzl⟩ y
    obtain ⟨F4, s4, W4, a, ha, ra⟩ := hY i H3 x H4 hi y F3 _ s3 W3
    have hd : xs.drop i = a :: xs.drop (i + 1) := by
      rw [List.drop_eq_getElem_cons hi]; congr 1; exact (List.getElem?_eq_some_iff.mp ha).2
    rw [hd] at hmp
    obtain ⟨b, t1, e1, hmp⟩ := bnd_some hmp
    obtain ⟨ws', t2, e2, hmp⟩ := bnd_some hmp
    obtain ⟨rfl, rfl⟩ := ret_some hmp
    have s14 : Same F F4 := (sm.trans sm2).trans (s3.trans s4)
    refine hg x a F4 s14 ra F4 H4 _ (SameR _) W4 _ fun σ2 k2 => ⟨hw x a F4 σ2 k2, ?_⟩
    have W5 : Wd F4 H4 (c3 ++ ((D, .lst us) :: (cb ++ O))) := W4.perm (by
      refine List.Perm.trans (List.Perm.cons _ ?_) (List.perm_middle.symm)
      rw [← List.append_assoc, ← List.append_assoc]; exact List.perm_append_comm.append_right O)
    unfold tYes; dsimp only
    rw [if_pos rfl]
    refine he x a F4 σ2 s14 ra k2 t b t1 e1 F4 H4 c3 ((D, .lst us) :: (cb ++ O)) (SameR _) (A.mono s4 o3) W5 _ fun v F5 H5 c5 cb5 s5 o5 ob5 W6 => ?_
    have W7 : Wd F5 H5 ((D, .lst us) :: ((cb ++ cb5) ++ (c5 ++ O))) := W6.perm (by
      have p1 : (cb5 ++ (c5 ++ (D, HO.lst us) :: (cb ++ O))).Perm ((D, HO.lst us) :: (cb5 ++ (c5 ++ (cb ++ O)))) := by
        rw [← List.append_assoc, ← List.append_assoc]; exact List.perm_middle
      refine p1.trans (List.Perm.cons _ ?_)
      have sw : ∀ X Y Z : Ch, (X ++ (Y ++ Z)).Perm (Y ++ (X ++ Z)) := fun X Y Z => by
        rw [← List.append_assoc, ← List.append_assoc]; exact List.perm_append_comm.append_right Z
      rw [List.append_assoc]
      exact ((sw c5 cb O).append_left cb5).trans (sw cb5 cb _))
    refine ⟨us, W7.hd, ?_, zs ++ [b], ws', t1, F5, c5, cb ++ cb5, us ++ [v], s3.trans (s4.trans s5), o5, pool_push s5 ob5 (poolO_mono s4 op), W7.set, e2, by simp, by simp; omega⟩
    rw [← pool_len op]; exact lim_le (by omega)
  · rintro H3 ⟨zs, ws, t, F3, c3, cb, us, s3, o3, op, W3, hmp, rfl, hzl⟩
    rw [List.drop_of_length_le (Nat.le_refl _)] at hmp
    obtain ⟨rfl, rfl⟩ := ret_some hmp
    have sF := Wd.frzS W3
    refine q D us _ H3 c3 cb (sm2.trans (s3.trans sF)) (A.mono sF o3) ?_ upd_same (Wd.frz W3)
    simpa using poolO_mono sF op
end
end T

/-! T21: Runs in a pool. -/
namespace T
open PySem L2
theorem eo_σ {S T' : Type} {te : TE} {σ σ' : L2.St} {F : Hp} {A : Ow S} {Bf : V → Ow T'} {m : M S T'} (e : σ = σ') (h : EvO te σ' F A Bf m) : EvO te σ F A Bf m := e ▸ h
section
variable {S α γ : Type} {U : Rl γ} {C : Addr} {σ : L2.St} {F : Hp} {A : Ow S} {mn : Str} {te0 : TE} {ps : List V} {m0 : M S Int} {E : XK} {g : S → List RunS} {p : S → List RunS → S}
theorem ev_runP0 {f : M RunS γ} (hl : InsHd (oRun C) C mn) (h0 : Ev te0 σ F A (rRef ps) m0) (e : Emb A (oPool (oRun C) ps) g p) : Ev (tMeth C mn (spRun0 C U f) [] E te0 tNil) σ F A U (bnd m0 fun k => zmI g p k f) := ev_meth0P hl h0 e
theorem ev_runP1 {f : Int → M RunS γ} {ar : TA} {ma : M S Int} (hl : InsHd (oRun C) C mn) (h0 : Ev te0 σ F A (rRef ps) m0) (e : Emb A (oPool (oRun C) ps) g p) (h : EvA ar σ F A (arOne rInt) ma) : Ev (tMeth C mn (spRun1 C U f) [] E te0 ar) σ F A U (bnd m0 fun k => bnd ma fun x => zmI g p k (f x)) := ev_methP (f := f) hl h0 e h
theorem ev_runP2 {f : Int → Int → M RunS γ} {ar : TA} {ma : M S (Int × Int)} (hl : InsHd (oRun C) C mn) (h0 : Ev te0 σ F A (rRef ps) m0) (e : Emb A (oPool (oRun C) ps) g p) (h : EvA ar σ F A (arC rInt (arOne rInt)) ma) : Ev (tMeth C mn (spRun2 C U f) [] E te0 ar) σ F A U (bnd m0 fun k => bnd ma fun x => zmI g p k (f x.1 x.2)) := ev_methP (f := fun x => f x.1 x.2) hl h0 e h
/-! a state as a tuple of tuples of numbers or truths -/
abbrev rIB : Rl (Int ⊕ Bool) := rSum rInt rBool
def dIB : RD rIB := ⟨fun x => match x with
  | .inl i => .int i
  | .inr b => .bool b, fun {K F v x} h => by
    cases x with
    | inl i => cases (show v = .int i from h); exact .int _
    | inr b => cases (show v = .bl b from h); exact .bl _⟩
def stU (s : State) : List (List (Int ⊕ Bool)) := [s.1.map .inl, s.2.1.map .inl, s.2.2.map .inr]
theorem paired_inl {F : Hp} {vs : List V} {xs : List Int} (h : Paired (rInt.r F) vs xs) : Paired (rIB.r F) vs (xs.map .inl) := by
  induction h with
  | nil => exact .nil
  | cons r t ih => exact .cons r ih
theorem paired_inr {F : Hp} {vs : List V} {xs : List Bool} (h : Paired (rBool.r F) vs xs) : Paired (rIB.r F) vs (xs.map .inr) := by
  induction h with
  | nil => exact .nil
  | cons r t ih => exact .cons r ih
theorem rState_U {F : Hp} {v : V} {s : State} (h : rState.r F v s) : (rTup (rTup rIB)).r F v (stU s) := by
  obtain ⟨p, _, rfl, hp, v1, _, rfl, ⟨p1, w1, e1, h1, q1⟩, v2, _, rfl, ⟨p2, w2, e2, h2, q2⟩, v3, rfl, p3, w3, e3, h3, q3⟩ := h
  exact ⟨p, _, rfl, hp, .cons ⟨p1, w1, e1, h1, paired_inl q1⟩ (.cons ⟨p2, w2, e2, h2, paired_inl q2⟩ (.cons ⟨p3, w3, e3, h3, paired_inr q3⟩ .nil))⟩
theorem ev_stU {te : TE} {m : M S State} (h : Ev te σ F A rState m) : Ev te σ F A (rTup (rTup rIB)) (bnd m fun s => ret (stU s)) := fun s b s' hm F1 H c O sm ho W Q q => by
  obtain ⟨x, s1, h1, hm⟩ := bnd_some hm
  obtain ⟨rfl, rfl⟩ := ret_some hm
  exact h s x _ h1 F1 H c O sm ho W _ fun v F2 H2 c2 s2 o2 W2 r2 => q v F2 H2 c2 s2 o2 W2 (rState_U r2)
end
end T
namespace T
open PySem L2
section
variable {α β γ : Type} {A : Ar α} {B' : Ar β} {AB : Ar γ} {K : PySem.W.Frag}
/-- a row of unlike things behind another one -/
structure ACat (A : Ar α) (B' : Ar β) (AB : Ar γ) (f : α → β → γ) : Prop where
  c : ∀ F vs ws x y, A.r F vs x → B'.r F ws y → vs ≠ [] ∧ ws ≠ [] ∧ vs.length + ws.length ≤ 100 ∧ AB.r F (vs ++ ws) (f x y)
theorem vl_catH {f : α → β → γ} (h : ACat A B' AB f) : VL2 (rCatA K) (rTh A) (rTh B') (rTh AB) (fun x y => some (f x y)) := fun F H O x y a b c W ⟨p1, vs, ex, hp, rp⟩ ⟨p2, ws, ey, hq, rq⟩ hf Q q => by
  cases hf
  obtain ⟨n1, n2, hl, r⟩ := h.c F vs ws a b rp rq
  refine ⟨p1, p2, vs, ws, ex, ey, SqT.of (W.sub _ _ hp), SqT.of (W.sub _ _ hq), Nat.le_trans hl (by decide), fun e => absurd e n1, fun _ e => absurd e n2, fun _ _ l nl => ?_⟩
  exact q _ _ _ (W.sameF nl) (W.newF nl) ⟨l, _, rfl, upd_same, AB.mono (W.sameF nl) r⟩
end
end T

/-! T22: pools of lists: what is read and stored in the k-th one. -/
namespace T
open PySem L2
def gtI {S T β : Type} (g : S → List T) (k : Int) (f : T → Option β) : M S β := fun s => ((g s)[k.toNat]?).bind fun t => (f t).map fun b => (b, s)
theorem gtI_some {S T β : Type} {g : S → List T} {k : Int} {f : T → Option β} {s s' : S} {b : β} (h : gtI g k f s = some (b, s')) : ∃ t, (g s)[k.toNat]? = some t ∧ f t = some b ∧ s' = s := by
  unfold gtI at h
  cases e : (g s)[k.toNat]? with
  | none => rw [e] at h; cases h
  | some t =>
    rw [e] at h
    cases e2 : f t with
    | none => simp [e2] at h
    | some q => simp [e2] at h; obtain ⟨rfl, rfl⟩ := h; exact ⟨t, rfl, e2, rfl⟩
def upI {S T : Type} (g : S → List T) (p : S → List T → S) (k : Int) (f : T → Option T) : M S Unit := fun s => ((g s)[k.toNat]?).bind fun t => (f t).map fun t' => ((), p s ((g s).set k.toNat t'))
theorem upI_some {S T : Type} {g : S → List T} {p : S → List T → S} {k : Int} {f : T → Option T} {s s' : S} {b : Unit} (h : upI g p k f s = some (b, s')) : ∃ t t', (g s)[k.toNat]? = some t ∧ f t = some t' ∧ s' = p s ((g s).set k.toNat t') := by
  unfold upI at h
  cases e : (g s)[k.toNat]? with
  | none => rw [e] at h; cases h
  | some t =>
    rw [e] at h
    cases e2 : f t with
    | none => simp [e2] at h
    | some q => simp [e2] at h; exact ⟨t, q, rfl, e2, h.symm⟩
section
variable {S α β γ Ω : Type} {R : Rl α} {R' : Rl β} {K : PySem.W.Frag} {σ : L2.St} {F : Hp} {A : Ow S} {te te0 ti ta : TE} {ar : TA} {u : TS} {P : Post Ω} {ps : List V} {g : S → List (List α)} {p : S → List (List α) → S} {m0 mi : M S Int} {m : M S α}
/-- the k-th list taken out -/
theorem emb_poolL {F H : Hp} {s : S} {c O : Ch} {v : V} {k : Int} (e : Emb A (oPool (oLst R) ps) g p) (ho : A.o F s c) (W : Wd F H (c ++ O)) (hk : (rRef ps).r F v k) : ∃ l vs xs c2, v = .ref l ∧ (g s)[k.toNat]? = some xs ∧ Paired (R.r F) vs xs ∧ Wd F H ((l, .lst vs) :: (c2 ++ O)) ∧
    ∀ F' vs' xs', Same F F' → Paired (R.r F') vs' xs' → ∀ H', Wd F' H' ((l, .lst vs') :: (c2 ++ O)) → ∃ c', A.o F' (p s ((g s).set k.toNat xs')) c' ∧ Wd F' H' (c' ++ O) := by
  obtain ⟨xs, hx, c1, c2, pm, ⟨l, vs, rfl, rfl, rp⟩, kk⟩ := emb_pool e ho hk
  refine ⟨l, vs, xs, c2, rfl, hx, rp, W.perm (pm.append_right O), fun F' vs' xs' sm rp' H' W' => ?_⟩
  obtain ⟨c', o', pm'⟩ := kk F' xs' [(l, .lst vs')] sm ⟨l, vs', rfl, rfl, rp'⟩
  exact ⟨c', o', W'.perm (pm'.append_right O).symm⟩
theorem ev_ixP (h0 : Ev te0 σ F A (rRef ps) m0) (e : Emb A (oPool (oLst R) ps) g p) (hi : Ev ti σ F A rInt mi) : Ev (tOp (rIxL K) te0 ti) σ F A R (bnd m0 fun k => bnd mi fun i => gtI g k fun xs => atI xs i) := fun s b s' hm F1 H c O sm ho W Q q => by
  obtain ⟨k, s0, h0m, hm⟩ := bnd_some hm
  obtain ⟨i, s1, h1, hm⟩ := bnd_some hm
  obtain ⟨xs, hx, h2, rfl⟩ := gtI_some hm
  refine h0 s k s0 h0m F1 H c O sm ho W _ fun v F0 H0 c0 sm0 o0 W0 r0 => ?_
  refine hi s0 i _ h1 F0 H0 c0 O (sm.trans sm0) o0 W0 _ fun y F2 H2 c2 s2 o2 W2 r2 => ?_
  obtain ⟨l, vs, xs', c3, rfl, hx', rp, W3, kk⟩ := emb_poolL e o2 W2 ((rRef ps).mono s2 r0)
  rw [hx] at hx'; cases hx'
  obtain ⟨w, e1, r1⟩ := atI_paired rp h2
  exact ⟨l, vs, i, w, rfl, r2, SqL.of W3.hd, e1, q w F2 H2 c2 (sm0.trans s2) o2 W2 r1⟩
theorem ev_cbP {r : List V → Hp → VK → Prop} {f : List α → Option β} (hr : VH r R R' f) (h0 : Ev te0 σ F A (rRef ps) m0) (e : Emb A (oPool (oLst R) ps) g p) : Ev (tCB r (tCons te0 tNil)) σ F A R' (bnd m0 fun k => gtI g k f) := fun s b s' hm F1 H c O sm ho W Q q => by
  obtain ⟨k, s0, h0m, hm⟩ := bnd_some hm
  obtain ⟨xs, hx, h2, rfl⟩ := gtI_some hm
  refine h0 s k _ h0m F1 H c O sm ho W _ fun v F0 H0 c0 sm0 o0 W0 r0 => ?_
  obtain ⟨l, vs, xs', c3, rfl, hx', rp, W3, kk⟩ := emb_poolL e o0 W0 r0
  rw [hx] at hx'; cases hx'
  exact hr F0 H0 _ l vs _ b W0 W3.hd rp h2 Q fun v F' H' s' W' r' => q v F' H' c0 (sm0.trans s') (A.mono s' o0) W' r'
theorem b_appP {f : S → Option Ω} (h0 : Ev te0 σ F A (rRef ps) m0) (e : Emb A (oPool (oLst R) ps) g p) (he : Ev te σ F A R m) (k : B u σ F A P f) : B (tSeq (tDrop (tBM K "list" rAppend te0 (tCons te tNil))) u) σ F A P (bnd m0 fun k => bnd m fun x => bnd (upI g p k fun xs => app xs x) fun _ => f) := fun s w hm F1 H c O sm ho W D q => by
  obtain ⟨n, s0, h0m, hm⟩ := bnd_some hm
  obtain ⟨x, s1, h1, hm⟩ := bnd_some hm
  obtain ⟨_, s2, h2, hm⟩ := bnd_some hm
  obtain ⟨xs, xs', hx, h2a, rfl⟩ := upI_some h2
  obtain ⟨rfl, hl⟩ := app_some h2a
  refine h0 s n _ h0m F1 H c O sm ho W _ fun v F0 H0 c0 sm0 o0 W0 r0 => ?_
  obtain ⟨l0, vs0, xs0, c3, e0, hx0, rp0, W3, _⟩ := emb_poolL e o0 W0 r0
  refine ⟨by rw [e0]; exact Or.inl ⟨rfl, vs0, SqL.of W3.hd⟩, ?_⟩
  refine he s0 x s1 h1 F0 H0 c0 O (sm.trans sm0) o0 W0 _ fun y F2 H2 c2 sm2 o2 W2 r2 => ?_
  obtain ⟨l, vs, xs', c3, rfl, hx', rp, W4, kk⟩ := emb_poolL e o2 W2 ((rRef ps).mono sm2 r0)
  rw [hx] at hx'; cases hx'
  refine ⟨l, vs, y, rfl, rfl, W4.hd, by rw [paired_len rp]; exact lim_le hl, ?_⟩
  obtain ⟨c4, o4, W5⟩ := kk F2 (vs ++ [y]) _ (SameR _) (rp.snoc r2) _ W4.set
  exact k _ w hm F2 _ c4 O ((sm.trans sm0).trans sm2) o4 W5 D (P.mono (sm0.trans sm2) q)
theorem b_setP {f : S → Option Ω} (h0 : Ev te0 σ F A (rRef ps) m0) (e : Emb A (oPool (oLst R) ps) g p) (he : Ev te σ F A R m) (hi : Ev ti σ F A rInt mi) (k : B u σ F A P f) : B (tSeq (tAsg te (gSub te0 ti rSetL)) u) σ F A P (bnd m fun x => bnd m0 fun k => bnd mi fun i => bnd (upI g p k fun xs => setI xs i x) fun _ => f) := fun s w hm F1 H c O sm ho W D q => by
  obtain ⟨x, s1, h1, hm⟩ := bnd_some hm
  obtain ⟨n, s0, h0m, hm⟩ := bnd_some hm
  obtain ⟨i, s2, h2, hm⟩ := bnd_some hm
  obtain ⟨_, s3, h3, hm⟩ := bnd_some hm
  obtain ⟨xs, xs', hx, h3a, rfl⟩ := upI_some h3
  obtain ⟨j, hj, rfl⟩ := setI_some h3a
  refine he s x s1 h1 F1 H c O sm ho W _ fun y F2 H2 c2 sm2 o2 W2 r2 => ?_
  refine h0 s1 n s0 h0m F2 H2 c2 O (sm.trans sm2) o2 W2 _ fun v F0 H0 c0 sm0 o0 W0 r0 => ?_
  refine hi s0 i s2 h2 F0 H0 c0 O ((sm.trans sm2).trans sm0) o0 W0 _ fun z F3 H3 c3 sm3 o3 W3 r3 => ?_
  obtain ⟨l, vs, xs', c4, rfl, hx', rp, W4, kk⟩ := emb_poolL e o3 W3 ((rRef ps).mono sm3 r0)
  rw [hx] at hx'; cases hx'
  refine ⟨l, vs, i, j, rfl, r3, W4.hd, by rw [paired_len rp]; exact hj, ?_⟩
  obtain ⟨c5, o5, W5⟩ := kk F3 (vs.set j y) _ (SameR _) (paired_set rp (R.mono (sm0.trans sm3) r2) j) _ W4.set
  exact k _ w hm F3 _ c5 O (((sm.trans sm2).trans sm0).trans sm3) o5 W5 D (P.mono (sm2.trans (sm0.trans sm3)) q)
end
end T

/-! T23: ways back of any kind; exceptions. -/
namespace T
open PySem L2
/-- an end that is told by the returns alone -/
class RtO {ρ : Type} (Q : Post ρ) : Prop where
  ro : ∀ {w : ρ} {F : Hp} {O : Ch} {D D' : Ends}, D'.rt = D.rt → Q.p w F O D → Q.p w F O D'
theorem ro_of {ρ : Type} (Q : Post ρ) [r : RtO Q] (D : Ends) {D' : Ends} {w : ρ} {F : Hp} {O : Ch} (h : Q.p w F O D) (e : D'.rt = D.rt := by rfl) : Q.p w F O D' := r.ro e h
instance {S0 β : Type} {X : Ow S0} {R : Rl β} : RtO (pRt X R) := ⟨fun e h v F' H' c' s o w r => by rw [e]; exact h v F' H' c' s o w r⟩
instance {S0 β : Type} {X : Ow S0} {Bf : V → Ow β} : RtO (pRo X Bf) := ⟨fun e h v F' H' c' cb s o ob w => by rw [e]; exact h v F' H' c' cb s o ob w⟩
section
variable {S S0 S1 T' α β γ δ Z Ω ρ : Type}
def pFlG (X : Ow S1) (Sl : Z → Hp → L2.St → Prop) (Q : Post ρ) : Post (Fl (Z × S1) ρ) where
  p := fun w F O D => match w with
    | .nx q => (pNx X Sl).p q F O D
    | .rt b => Q.p b F O D
  mono := fun {w F F' O D} s h => by
    cases w with
    | nx q => exact (pNx X Sl).mono s h
    | rt b => exact Q.mono s h
variable {te ta tb : TE} {tt : TT} {ar : TA} {σ : L2.St} {F F' : Hp} {A : Ow S} {R : Rl α} {R' : Rl β} {U : Rl γ} {m : M S α} {m' : M S β} {v : V} {u t e w : TS} {P : Post Ω} {Q : Post ρ} [RtO Q] {K : PySem.W.Frag}
theorem b_nxFG {X : Ow S1}  {π : S → S1} {Sl : Z → Hp → L2.St → Prop} {z : Z}  (pr : Pr A X π) (h : ∀ F', Same F F' → Sl z F' σ) : B tNext σ F A (pFlG X Sl Q) (fun s => some (.nx (z, π s))) := fun s w hm F1 H c O sm ho W D q => by
  cases hm
  obtain ⟨c3, o3, W3⟩ := Wd.pr pr ho W
  exact q F1 H c3 σ (SameR _) o3 W3 (h F1 sm)
theorem b_rtFG {X : Ow S1}  {Sl : Z → Hp → L2.St → Prop}  {f : S → Option ρ} (h : B u σ F A Q f) : B u σ F A (pFlG X Sl Q) (rtF f) := fun s w hm F1 H c O sm ho W D q => by
  unfold rtF at hm
  cases e1 : f s with
  | none => rw [e1] at hm; cases hm
  | some r => rw [e1] at hm; cases hm; exact h s r e1 F1 H c O sm ho W D q
/-- a test that may lead to a return; else on -/
theorem b_ifRG {mb : M S Bool}  {f g : S → Option ρ} (hc : EvT tt σ F A mb) (ht : B t σ F A Q f) (hw : B w σ F A Q g) : B (tSeq (tIfS tt t tNext) w) σ F A Q (bnd mb fun b => bif b then f else g) := fun s r hm F1 H c O sm ho W D q => by
  obtain ⟨b, s1, h1, hm⟩ := bnd_some hm
  refine hc s b s1 h1 F1 H c O sm ho W _ fun F2 H2 c2 s2 o2 W2 => ?_
  cases b with
  | true => exact iteT (ht s1 r hm F2 H2 c2 O (sm.trans s2) o2 W2 _ (ro_of Q D (Q.mono s2 q)))
  | false => exact iteF (hw s1 r hm F2 H2 c2 O (sm.trans s2) o2 W2 D (ro_of Q D (Q.mono s2 q)))
theorem b_ifRFG {mb : M S Bool} {X : Ow S1}  {Sl : Z → Hp → L2.St → Prop} {f : S → Option ρ} {g : S → Option (Fl (Z × S1) ρ)} (hc : EvT tt σ F A mb) (ht : B t σ F A Q f) (hw : B w σ F A (pFlG X Sl Q) g) :
    B (tSeq (tIfS tt t tNext) w) σ F A (pFlG X Sl Q) (bnd mb fun b => bif b then rtF f else g) := fun s r hm F1 H c O sm ho W D q => by
  obtain ⟨b, s1, h1, hm⟩ := bnd_some hm
  refine hc s b s1 h1 F1 H c O sm ho W _ fun F2 H2 c2 s2 o2 W2 => ?_
  cases b with
  | true =>
    simp only [cond_true] at hm
    unfold rtF at hm
    cases e1 : f s1 with
    | none => rw [e1] at hm; cases hm
    | some r' => rw [e1] at hm; cases hm; exact iteT (ht s1 r' e1 F2 H2 c2 O (sm.trans s2) o2 W2 _ (ro_of Q D (Q.mono s2 q)))
  | false => exact iteF (hw s1 r hm F2 H2 c2 O (sm.trans s2) o2 W2 D ((pFlG X Sl Q).mono s2 q))
/-- both ways return -/
theorem b_if2G {mb : M S Bool}  {f g : S → Option ρ} (hc : EvT tt σ F A mb) (ht : B t σ F A Q f) (he : B e σ F A Q g) : B (tSeq (tIfS tt t e) w) σ F A Q (bnd mb fun b => bif b then f else g) := fun s r hm F1 H c O sm ho W D q => by
  obtain ⟨b, s1, h1, hm⟩ := bnd_some hm
  refine hc s b s1 h1 F1 H c O sm ho W _ fun F2 H2 c2 s2 o2 W2 => ?_
  cases b with
  | true => exact iteT (ht s1 r hm F2 H2 c2 O (sm.trans s2) o2 W2 _ (ro_of Q D (Q.mono s2 q)))
  | false => exact iteF (he s1 r hm F2 H2 c2 O (sm.trans s2) o2 W2 _ (ro_of Q D (Q.mono s2 q)))
/-- ways that return, or go on to a common place -/
theorem b_ifEG {mb : M S Bool} {Sl : Z → Hp → L2.St → Prop}  {f g : S → Option (Fl (Z × S) ρ)} {h : Z → S → Option ρ} (hc : EvT tt σ F A mb) (ht : B t σ F A (pFlG A Sl Q) f) (he : B e σ F A (pFlG A Sl Q) g)
    (k : ∀ z F' σ', Same F F' → Sl z F' σ' → B w σ' F' A Q (h z)) : B (Evl.tCut (tIfS tt t e) w) σ F A Q (fthn (bnd mb fun b => bif b then f else g) h) := fun s r hm F1 H c O sm ho W D q => by
  unfold fthn at hm
  cases e0 : bnd mb (fun b => bif b then f else g) s with
  | none => rw [e0] at hm; cases hm
  | some fl =>
    rw [e0] at hm
    obtain ⟨b, s1, h1, h2⟩ := bnd_some e0
    cases fl with
    | nx z =>
      refine ⟨fun σ' H' => ∃ F' c', Same F1 F' ∧ A.o F' z.2 c' ∧ Wd F' H' (c' ++ O) ∧ Sl z.1 F' σ', ?_, fun σ' H' ⟨F', c', s', o', W', sl⟩ => k z.1 F' σ' (sm.trans s') sl z.2 r hm F' H' c' O (SameR _) o' W' D (Q.mono s' q)⟩
      refine hc s b s1 h1 F1 H c O sm ho W _ fun F2 H2 c2 sm2 o2 W2 => ?_
      cases b with
      | true => exact iteT (ht s1 _ h2 F2 H2 c2 O (sm.trans sm2) o2 W2 _ fun F3 H3 c3 σ3 s3 o3 W3 sl => ⟨F3, c3, sm2.trans s3, o3, W3, sl⟩)
      | false => exact iteF (he s1 _ h2 F2 H2 c2 O (sm.trans sm2) o2 W2 _ fun F3 H3 c3 σ3 s3 o3 W3 sl => ⟨F3, c3, sm2.trans s3, o3, W3, sl⟩)
    | rt b' =>
      obtain rfl : b' = r := Option.some.inj hm
      refine ⟨fun σ' H' => False, ?_, fun σ' H' f => f.elim⟩
      refine hc s b s1 h1 F1 H c O sm ho W _ fun F2 H2 c2 sm2 o2 W2 => ?_
      cases b with
      | true => exact iteT (ht s1 _ h2 F2 H2 c2 O (sm.trans sm2) o2 W2 _ (ro_of Q D (Q.mono sm2 q)))
      | false => exact iteF (he s1 _ h2 F2 H2 c2 O (sm.trans sm2) o2 W2 _ (ro_of Q D (Q.mono sm2 q)))
theorem b_ifEFG {mb : M S Bool} {Z' : Type} {Sl : Z → Hp → L2.St → Prop} {Sl' : Z' → Hp → L2.St → Prop}  {Y : Ow S1} {f g : S → Option (Fl (Z × S) ρ)} {h : Z → S → Option (Fl (Z' × S1) ρ)} (hc : EvT tt σ F A mb) (ht : B t σ F A (pFlG A Sl Q) f) (he : B e σ F A (pFlG A Sl Q) g)
    (k : ∀ z F' σ', Same F F' → Sl z F' σ' → B w σ' F' A (pFlG Y Sl' Q) (h z)) : B (Evl.tCut (tIfS tt t e) w) σ F A (pFlG Y Sl' Q) (fthnF (bnd mb fun b => bif b then f else g) h) := fun s r hm F1 H c O sm ho W D q => by
  unfold fthnF at hm
  cases e0 : bnd mb (fun b => bif b then f else g) s with
  | none => rw [e0] at hm; cases hm
  | some fl =>
    rw [e0] at hm
    obtain ⟨b, s1, h1, h2⟩ := bnd_some e0
    cases fl with
    | nx z =>
      refine ⟨fun σ' H' => ∃ F' c', Same F1 F' ∧ A.o F' z.2 c' ∧ Wd F' H' (c' ++ O) ∧ Sl z.1 F' σ', ?_, fun σ' H' ⟨F', c', s', o', W', sl⟩ => k z.1 F' σ' (sm.trans s') sl z.2 r hm F' H' c' O (SameR _) o' W' D ((pFlG Y Sl' Q).mono s' q)⟩
      refine hc s b s1 h1 F1 H c O sm ho W _ fun F2 H2 c2 sm2 o2 W2 => ?_
      cases b with
      | true => exact iteT (ht s1 _ h2 F2 H2 c2 O (sm.trans sm2) o2 W2 _ fun F3 H3 c3 σ3 s3 o3 W3 sl => ⟨F3, c3, sm2.trans s3, o3, W3, sl⟩)
      | false => exact iteF (he s1 _ h2 F2 H2 c2 O (sm.trans sm2) o2 W2 _ fun F3 H3 c3 σ3 s3 o3 W3 sl => ⟨F3, c3, sm2.trans s3, o3, W3, sl⟩)
    | rt b' =>
      obtain rfl : Fl.rt b' = r := Option.some.inj hm
      refine ⟨fun σ' H' => False, ?_, fun σ' H' f => f.elim⟩
      refine hc s b s1 h1 F1 H c O sm ho W _ fun F2 H2 c2 sm2 o2 W2 => ?_
      cases b with
      | true => exact iteT (ht s1 _ h2 F2 H2 c2 O (sm.trans sm2) o2 W2 _ (ro_of Q D (Q.mono sm2 q)))
      | false => exact iteF (he s1 _ h2 F2 H2 c2 O (sm.trans sm2) o2 W2 _ (ro_of Q D (Q.mono sm2 q)))
/-- a loop whose turns may return: what is wanted of an end is told by Pe -/
theorem for_EG {wi : TI} {g : TG} {f : Z → α → S → Option (Fl (Z × S) ρ)} {z0 : Z} {Sl : Z → Hp → L2.St → Prop}  {ml : M S (List α)} (hi : EvI wi σ F A R ml) (h0 : ∀ F', Same F F' → Sl z0 F' σ)
    (hb : ∀ z x v F' σ', Same F F' → Sl z F' σ' → R.r F' v x → B (tGo g v t) σ' F' A (pFlG A Sl Q) (f z x)) (hS : ∀ z F F' σ', Same F F' → Sl z F σ' → Sl z F' σ')
    {s s1 : S} {xs : List α} {fl : Fl (Z × S) ρ} (h1 : ml s = some (xs, s1)) (h2 : fdE f z0 xs s1 = some fl) {F1 H : Hp} {c O : Ch} (sm : Same F F1) (ho : A.o F1 s c) (W : Wd F1 H (c ++ O)) (D : Ends)
    (q : match fl with
      | .nx z => ∀ F' H' c' σ', Same F1 F' → A.o F' z.2 c' → Wd F' H' (c' ++ O) → Sl z.1 F' σ' → D.nx σ' H'
      | .rt b => Q.p b F1 O D) : tFor wi g t D σ H := by
  refine hi s xs s1 h1 F1 H c O sm ho W _ fun J F2 H2 c2 sm2 o2 W2 ⟨G, Y, wk, hG, hY⟩ => ?_
  refine for_it wk (fun i σ3 H3 => ∃ z s3 F3 c3, Same F2 F3 ∧ A.o F3 s3 c3 ∧ Wd F3 H3 (c3 ++ O) ∧ Sl z F3 σ3 ∧ fdE f z (xs.drop i) s3 = some fl) ?_ ?_ ?_ ?_
  · exact ⟨z0, s1, F2, c2, SameR _, o2, W2, h0 F2 (sm.trans sm2), h2⟩
  · rintro i σ3 H3 _ ⟨z, s3, F3, c3, sm3, o3, W3, _⟩
    exact hG F3 H3 sm3 W3.sub
  · rintro i x σ3 H3 H4 hlt ⟨z, s3, F3, c3, sm3, o3, W3, sl, hfd⟩ y
    obtain ⟨F4, sm4, W4, a, ha, ra⟩ := hY i H3 x H4 hlt y F3 _ sm3 W3
    rcases fdE_cons ha hfd with ⟨q', e1, e2⟩ | ⟨b, e1, e2⟩
    · exact hb z a x F4 σ3 ((sm.trans sm2).trans (sm3.trans sm4)) (hS _ _ _ _ sm4 sl) ra s3 _ e1 F4 H4 c3 O (SameR _) (A.mono sm4 o3) W4 _ fun F5 H5 c5 σ5 s5 o5 W5 sl5 => ⟨q'.1, q'.2, F5, c5, sm3.trans (sm4.trans s5), o5, W5, sl5, e2⟩
    · subst e2
      exact hb z a x F4 σ3 ((sm.trans sm2).trans (sm3.trans sm4)) (hS _ _ _ _ sm4 sl) ra s3 _ e1 F4 H4 c3 O (SameR _) (A.mono sm4 o3) W4 _ (ro_of Q D (Q.mono (sm2.trans (sm3.trans sm4)) q))
  · rintro σ3 H3 ⟨z, s3, F3, c3, sm3, o3, W3, sl, hfd⟩
    rw [List.drop_of_length_le (Nat.le_refl _)] at hfd
    obtain rfl : Fl.nx (z, s3) = fl := by rw [fdE] at hfd; exact Option.some.inj hfd
    exact q F3 H3 c3 σ3 (sm2.trans sm3) o3 W3 sl
theorem b_forEG {wi : TI} {g : TG} {f : Z → α → S → Option (Fl (Z × S) ρ)} {z0 : Z} {Sl : Z → Hp → L2.St → Prop}  {h : Z → S → Option ρ} {ml : M S (List α)} (hi : EvI wi σ F A R ml) (h0 : ∀ F', Same F F' → Sl z0 F' σ)
    (hb : ∀ z x v F' σ', Same F F' → Sl z F' σ' → R.r F' v x → B (tGo g v t) σ' F' A (pFlG A Sl Q) (f z x)) (k : ∀ z F' σ', Same F F' → Sl z F' σ' → B w σ' F' A Q (h z))
    (hS : ∀ z F F' σ', Same F F' → Sl z F σ' → Sl z F' σ') : B (tSeq (tFor wi g t) w) σ F A Q (bnd ml fun xs => fthn (fdE f z0 xs) h) := fun s r hm F1 H c O sm ho W D q => by
  obtain ⟨xs, s1, h1, hm⟩ := bnd_some hm
  unfold fthn at hm
  cases e0 : fdE f z0 xs s1 with
  | none => rw [e0] at hm; cases hm
  | some fl =>
    rw [e0] at hm
    refine for_EG hi h0 hb hS h1 e0 sm ho W _ ?_
    cases fl with
    | nx z => exact fun F' H' c' σ' s' o' W' sl => k z.1 F' σ' (sm.trans s') sl z.2 r hm F' H' c' O (SameR _) o' W' D (Q.mono s' q)
    | rt b =>
      obtain rfl : b = r := Option.some.inj hm
      exact ro_of Q D q
theorem b_forEFG {Z' : Type} {wi : TI} {g : TG} {f : Z → α → S → Option (Fl (Z × S) ρ)} {z0 : Z} {Sl : Z → Hp → L2.St → Prop} {Sl' : Z' → Hp → L2.St → Prop}  {Y : Ow S1} {h : Z → S → Option (Fl (Z' × S1) ρ)} {ml : M S (List α)} (hi : EvI wi σ F A R ml) (h0 : ∀ F', Same F F' → Sl z0 F' σ)
    (hb : ∀ z x v F' σ', Same F F' → Sl z F' σ' → R.r F' v x → B (tGo g v t) σ' F' A (pFlG A Sl Q) (f z x)) (k : ∀ z F' σ', Same F F' → Sl z F' σ' → B w σ' F' A (pFlG Y Sl' Q) (h z))
    (hS : ∀ z F F' σ', Same F F' → Sl z F σ' → Sl z F' σ') : B (tSeq (tFor wi g t) w) σ F A (pFlG Y Sl' Q) (bnd ml fun xs => fthnF (fdE f z0 xs) h) := fun s r hm F1 H c O sm ho W D q => by
  obtain ⟨xs, s1, h1, hm⟩ := bnd_some hm
  unfold fthnF at hm
  cases e0 : fdE f z0 xs s1 with
  | none => rw [e0] at hm; cases hm
  | some fl =>
    rw [e0] at hm
    refine for_EG hi h0 hb hS h1 e0 sm ho W _ ?_
    cases fl with
    | nx z => exact fun F' H' c' σ' s' o' W' sl => k z.1 F' σ' (sm.trans s') sl z.2 r hm F' H' c' O (SameR _) o' W' D ((pFlG Y Sl' Q).mono s' q)
    | rt b =>
      obtain rfl : Fl.rt b = r := Option.some.inj hm
      exact ro_of Q D q
theorem b_whileEG {n : Nat} {z0 : Z} {cnd : Z → M S Bool}  {f : Z → S → Option (Fl (Z × S) ρ)} {Sl : Z → Hp → L2.St → Prop} {h : Z → S → Option ρ} (h0 : ∀ F', Same F F' → Sl z0 F' σ) (hc : ∀ z F' σ', Same F F' → Sl z F' σ' → EvT tt σ' F' A (cnd z))
    (hb : ∀ z F' σ', Same F F' → Sl z F' σ' → B t σ' F' A (pFlG A Sl Q) (f z)) (k : ∀ z F' σ', Same F F' → Sl z F' σ' → B w σ' F' A Q (h z)) (hS : ∀ z F F' σ', Same F F' → Sl z F σ' → Sl z F' σ') :
    B (tSeq (tWhile tt t) w) σ F A Q (fthn (whlE cnd f n z0) h) := fun s r hm F1 H c O sm ho W D q => by
  unfold fthn at hm
  cases e0 : whlE cnd f n z0 s with
  | none => rw [e0] at hm; cases hm
  | some fl =>
    rw [e0] at hm
    refine ⟨fun j σ3 H3 => ∃ z s3 F3 c3, Same F1 F3 ∧ A.o F3 s3 c3 ∧ Wd F3 H3 (c3 ++ O) ∧ Sl z F3 σ3 ∧ whlE cnd f j z s3 = some fl, ⟨n, z0, s, F1, c, SameR _, ho, W, h0 F1 sm, e0⟩, ?_⟩
    rintro j σ3 H3 ⟨z, s3, F3, c3, sm3, o3, W3, sl, hw⟩
    cases j with
    | zero => cases hw
    | succ j =>
      obtain ⟨b, s4, e1, hw⟩ := bnd_some hw
      refine hc z F3 σ3 (sm.trans sm3) sl s3 b s4 e1 F3 H3 c3 O (SameR _) o3 W3 _ fun F4 H4 c4 sm4 o4 W4 => ?_
      cases b with
      | true =>
        simp only [cond_true] at hw
        cases e2 : f z s4 with
        | none => rw [e2] at hw; cases hw
        | some fl' =>
          rw [e2] at hw
          cases fl' with
          | nx z5 =>
            refine iteT ⟨fun σ5 H5 => ∃ F5 c5, Same F1 F5 ∧ A.o F5 z5.2 c5 ∧ Wd F5 H5 (c5 ++ O) ∧ Sl z5.1 F5 σ5, fun σ5 H5 ⟨F5, c5, sm5, o5, W5, sl5⟩ => ⟨j, Nat.lt_succ_self j, z5.1, z5.2, F5, c5, sm5, o5, W5, sl5, hw⟩, ?_⟩
            exact hb z F4 σ3 ((sm.trans sm3).trans sm4) (hS _ _ _ _ sm4 sl) s4 _ e2 F4 H4 c4 O (SameR _) o4 W4 _ fun F5 H5 c5 σ5 s5 o5 W5 sl5 => ⟨F5, c5, (sm3.trans sm4).trans s5, o5, W5, sl5⟩
          | rt b' =>
            obtain rfl : Fl.rt b' = fl := Option.some.inj hw
            obtain rfl : b' = r := Option.some.inj hm
            exact iteT ⟨fun _ _ => False, fun _ _ f => f.elim, hb z F4 σ3 ((sm.trans sm3).trans sm4) (hS _ _ _ _ sm4 sl) s4 _ e2 F4 H4 c4 O (SameR _) o4 W4 _ (ro_of Q D (Q.mono (sm3.trans sm4) q))⟩
      | false =>
        obtain rfl : Fl.nx (z, s4) = fl := Option.some.inj hw
        exact iteF (k _ F4 σ3 ((sm.trans sm3).trans sm4) (hS _ _ _ _ sm4 sl) _ r hm F4 H4 c4 O (SameR _) o4 W4 D (Q.mono (sm3.trans sm4) q))
end
end T
namespace L2
open PySem PySem.Spec PyProof.Rows
/-- an exception of the class cls that was caught, at a -/
def ExH (cls : Value) (a : Addr) : HO := .ext fun h => ∃ (oe : Obj) (vs : Array Value), h.get? a = some oe ∧ Zc cls none oe ∧ oe.data = .fields vs
theorem exH_ok {P : Program} {w : World} {H : Hp} {h : Heap} {a : Addr} {cls : Value} {oe : Obj} (e : h.get? a = some oe) (z : Zc cls none oe) (d : ∃ vs, oe.data = .fields vs) : ObjOk P w H h a (ExH cls a) := by
  obtain ⟨vs, d⟩ := d
  exact ⟨⟨oe, vs, e, z, d⟩, ⟨oe, e⟩, fun _ _ ⟨o, v, q, r⟩ k => ⟨o, v, k o q, r⟩⟩
section
variable {X : Cx} {pins : List (Addr × Obj)} {σ : St} {H : Hp} {s : Shared}
/-- a caught exception is tracked -/
theorem Inv.track {a : Addr} {oe : Obj} {cls : Value} (I : Inv X pins σ H s) (ha : s.heap.get? a = some oe) (z : Zc cls none oe) (hd : ∃ vs, oe.data = .fields vs) (na : H a = none) (n0 : X.s_0.heap.get? a = none) (nL : a ≠ X.env.locals) (np : ∀ p ∈ X.pn ++ pins, p.1 ≠ a) :
    Inv X pins σ (upd H a (ExH cls a)) s where
  ok := I.ok
  os := I.os
  bare := I.bare
  base := by
    have B := I.base
    refine ⟨B.keep, B.slot, fun b o e n hx => ?_, B.there, fun b xs e => ?_, fun b o u e => ?_, fun b ps e => ?_⟩
    · rw [upd_ne (fun q => by rw [q, n0] at e; cases e)]; exact B.free b o e n hx
    · have q := B.tups b xs e
      rw [upd_ne (ne_of_none q na)]; exact q
    · have q := B.frzs b o u e
      rw [upd_ne (ne_of_none q na)]; exact q
    · obtain ⟨m, q⟩ := B.tbls b ps e
      exact ⟨m, by rw [upd_ne (ne_of_none q na)]; exact q⟩
  loc := I.loc
  cell := I.cell
  free := by rw [upd_ne nL.symm]; exact I.free
  freeC := fun x c e => by
    have hc : c ≠ a := fun q => by
      obtain ⟨v, o, ho, hdd⟩ := I.cell x c e
      obtain ⟨vs, hd⟩ := hd
      rw [q, ha] at ho; cases ho
      rw [hd] at hdd; cases hdd
    rw [upd_ne hc]; exact I.freeC x c e
  pin := fun p hp => by
    obtain ⟨h1, h2, h3⟩ := I.pin p hp
    exact ⟨h1, by rw [upd_ne (np p hp)]; exact h2, h3⟩
  hok := fun b o e => by
    by_cases hb : b = a
    · subst hb; rw [upd_same] at e; cases e; exact exH_ok ha z hd
    · rw [upd_ne hb] at e
      exact (I.hok b o e).stay (fun c v _ q => q) (fun c q => by rw [upd_ne (ne_of_none q na)]; exact q) fun c xs q => by rw [upd_ne (ne_of_none q na)]; exact q
  len := I.len
end
/-- what the clause 'except x as n: suite' wishes of an exception of the body, where it is kept behind the suite -/
def wKeep (K : PySem.W.Frag) (c : Value) (i : Nat) (ts : Addr → Value → Option Addr → TS) (Wout : WX) (D : Ends) : WX := fun cls d σ H =>
  ∃ b, PySem.W.exmOne K cls c = some b ∧ d = none ∧ (b = true → ∀ a, H a = none → ts a cls d { nx := fun σ' H' => D.nx (σ'.set i none) (upd H' a (ExH cls a)), rt := fun _ _ => False, bk := fun _ _ => False, ct := fun _ _ => False } (σ.set i (some (.ref a))) H) ∧
    (b = false → Wout cls d σ H)
section
variable {X : Cx} {x n : Str} {c : Value} {i : Nat} {body suite : List Stmt} {b₀ : Stmt} {np pos pos' : Pos} {tb : WX → TS} {ts : Addr → Value → Option Addr → TS} {Wout : WX}
theorem ps_try_keep (hex : X.ex = []) (hs : X.stack = X.env :: X.outer) (hf : X.env.frame = some X.env.locals) (hN : X.N.Nodup) (hi : X.N[i]? = some n) (hln : X.env.kindOf n = some .local) (hc : Names X x c) (tk : Takes X Wout)
    (hb : ∀ (W : WX) (pn : List (Addr × Obj)) (xe : Value → Shared → Prop), Takes (X.tr pn xe) W → PassesOwn (model X.prog X.w) X.A X.env xe → PSs (X.tr pn xe) body (tb W))
    (hsu : ∀ (a : Addr) (oe : Obj) (cls : Value) (d : Option Addr) (pn : List (Addr × Obj)), Zc cls d oe → (∃ vs, oe.data = .fields vs) → PSs (X.suite a ((a, oe) :: pn)) (b₀ :: suite) (ts a cls d)) :
    PS X (.Try body [.ExceptHandler (some (.Name x np)) (some n) (b₀ :: suite) pos'] [] [] pos) (fun D σ H => tb (wKeep X.K c i ts Wout D) D σ H) := by
  refine ⟨fun pins s σ H D I h => ?_⟩
  have ok := I.ok
  have hfr : X.A.frames = some (X.env :: X.outer) := by rw [ok.frames, hs]
  have hloc : Loc X.env.scope n := .inl hln
  refine wpAny_Try_except ?_
  refine wpAny_mono ((hb (wKeep X.K c i ts Wout D) (X.pn ++ pins) (fun e s₁ => wpAny (model X.prog X.w) X.A (noteFrame e X.env) (fun _ s₂ => wpAny (model X.prog X.w) X.A (setFlight e none) (fun _ s₃ =>
    wpAny (model X.prog X.w) X.A (handleBy e X.env [.ExceptHandler (some (.Name x np)) (some n) (b₀ :: suite) pos']) (SP X pins D) X.xe s₃) X.xe s₂) X.xe s₁) (fun u s' xx => ?_) PassesOwn.looking).run [] s σ H D (I.toTry _) h) (fun f s1 hsp => ?_) (fun e s1 he => he)
  · -- the catch
    obtain ⟨a, B, sI, pins', σ', H', cls, d, rfl, J', nb, up, sky, na, os, ag, b, hb1, hd0, hyes, hno⟩ := xx
    have J : Inv X pins σ' H' sI := J'.ofTry ok
    have sky' : Sky B (X.env :: X.outer) a (Zc cls d) X.env.locals s'.heap := by rw [← hs]; exact sky
    show wpAny (model X.prog X.w) X.A (noteFrame (.ref a) X.env) _ _ _
    refine Sky.land Zc.steady hfr hf sky' fun h3 fl3 up3 => ?_
    have J3 : Inv X pins σ' H' { s' with heap := h3 } := J.landed nb fl3.1 (up.trans up3) os ag
    obtain ⟨oe3, vs3, he3, hz3, hd3⟩ := fl3.there
    have notFr : ∀ {h : Heap} {o : Obj} {vs : Array Value}, h.FunFrames B (X.env :: X.outer) → h.get? a = some o → o.data = .fields vs → a ∉ frs (X.env :: X.outer) := fun {h o vs} ff e dd hm => by
      obtain ⟨_, o', e', hnf⟩ := ff.mem hm
      rw [e] at e'; cases e'
      exact hnf _ dd
    have nfr := notFr fl3.2.2.1 he3 hd3
    have nL : a ≠ X.env.locals := fun z => nfr (List.mem_filterMap.mpr ⟨X.env, List.mem_cons_self, by rw [hf, z]⟩)
    have nF : a ∉ X.fs := fun hm => by
      obtain ⟨e, he, q⟩ := List.mem_filterMap.mp hm
      exact nfr (List.mem_filterMap.mpr ⟨e, List.mem_cons_of_mem _ he, q⟩)
    have nI : sI.heap.get? a = none := by
      cases e : sI.heap.get? a with
      | none => rfl
      | some o =>
        have := nb a o e (by rw [hs]; exact nfr)
        rw [fl3.2.1] at this; cases this
    have n0 : X.s_0.heap.get? a = none := by
      cases e : X.s_0.heap.get? a with
      | none => rfl
      | some o =>
        by_cases hx : a ∈ X.ex
        · exact absurd hx (by rw [hex]; exact fun z => nomatch z)
        · obtain ⟨o', q⟩ := J.base.there a o e hx
          rw [nI] at q; cases q
    have npin : ∀ p ∈ X.pn ++ pins, p.1 ≠ a := fun p hp q => by
      have := (J.pin p hp).1
      rw [q, nI] at this; cases this
    have S3 := J3.suite he3 hd3 na nL nF
    refine wpAny_handleBy_cons (codeAny_handlers_test ?_) (by intro q; cases q)
    have LT : PySem.W.Looks (model X.prog X.w) h3 (typeOf (.ref a)) cls := fun A Q E s k q => wpAny_typeOf_ref (k _ _ he3) (by rw [hz3.1]; exact q)
    have LM := PySem.W.exm_one (M := model X.prog X.w) (J3.kIn) LT hb1
    have test : ∀ {Q : Value → Shared → Prop} {E : Value → Shared → Prop}, Q c { s' with heap := h3 } → wpAny (model X.prog X.w) (X.A.mark (some (.ref a))) (eval (.Name x np) X.env) Q E { s' with heap := h3 } := fun {Q E} q => by
      obtain ⟨hg, hdbg, hm | ⟨hm, hv, hnn⟩⟩ := hc
      · exact ld_glob (X := X.suite a ((a, oe3) :: (X.pn ++ pins))) S3 hg hm q hdbg
      · exact ld_blt (X := X.suite a ((a, oe3) :: (X.pn ++ pins))) S3 hg hm hv q hnn hdbg
    refine test (LM.here ?_)
    cases b with
    | true =>
      refine codeAny_handlers_suite_as ?_
      refine HandSPX.lands_againZ fl3 fun h4 fl4 up4 => ?_
      have J4 : Inv X pins σ' H' { s' with heap := h4 } := J.landed nb fl4.1 ((up.trans up3).trans up4) os ag
      obtain ⟨oe4, vs4, he4, hz4, hd4⟩ := fl4.there
      have S4 := J4.suite he4 hd4 na nL nF
      refine store_ok (X := X.suite a ((a, oe4) :: (X.pn ++ pins))) (v := .ref a) S4 hN hi hloc rfl (fun s5 S5 => ?_) (.inr hln)
      refine wpAny_mono ((hsu a oe4 cls d (X.pn ++ pins) hz4 ⟨_, hd4⟩).run [] s5 _ H' _ S5 (hyes rfl a na)) (fun f s6 hsp => ?_) (fun _ _ z => False.elim z)
      have end_ : ∀ {σ6 : St} {H6 : Hp} {Q : Shared → Prop}, Inv (X.suite a ((a, oe4) :: (X.pn ++ pins))) [] σ6 H6 s6 → (∀ s7, Inv X pins (σ6.set i none) (upd H6 a (ExH cls a)) s7 → Q s7) →
          wpAny (model X.prog X.w) X.A (do bindName X.env n .none; unbindBehindTheSuite X.env n pos') (fun _ s7 => Q s7) X.xe s6 := fun {σ6 H6 Q} S6 hq => by
        obtain ⟨g1, g2, _⟩ := S6.pin (a, oe4) (List.mem_append.mpr (.inl List.mem_cons_self))
        subst hd0
        exact gone_ok ((S6.unsuite ok).track g1 hz4 ⟨_, hd4⟩ g2 n0 nL npin) hN hi hln hq
      cases f with
      | next =>
        obtain ⟨σ6, H6, S6, q6⟩ := hsp
        exact end_ S6 fun s7 J7 => ⟨_, _, J7, q6⟩
      | brk =>
        obtain ⟨σ6, H6, S6, q6⟩ := hsp
        exact q6.elim
      | cont =>
        obtain ⟨σ6, H6, S6, q6⟩ := hsp
        exact q6.elim
      | ret u =>
        obtain ⟨v6, σ6, H6, S6, r6, q6⟩ := hsp
        exact q6.elim
    | false =>
      show wpAny _ X.A (handleBy (.ref a) X.env []) _ _ _
      refine wpAny_handleBy_nil ?_
      obtain ⟨k1, k2, k3, oe, vs, T, oT, ts', he, hz, hd, h1, hr⟩ := id fl3
      unfold PySem.passOn
      refine wpAny_bind (wpAny_field he hd h1 ?_)
      rw [if_neg (show ¬ ((Value.ref T == Value.none) = true) from by simp)]
      have fin : wpAny (model X.prog X.w) X.A (setFlight (.ref a) X.env.frame) (fun _ s4 => wpAny (model X.prog X.w) X.A (throw (.ref a) : Sem Flow) (SP X pins D) X.xe s4) X.xe { s' with heap := h3 } := by
        rw [hf]
        refine HandSPX.setFlight_upZ fl3 fun h4 hh4 up4 => wpAny_throw (tk _ _ ?_)
        exact ⟨a, B, sI, pins, σ', H', cls, d, rfl, J, nb, (up.trans up3).trans up4, .inr (.inr (by rw [hs]; exact hh4)), na, os, ag, hno rfl⟩
      first
        | exact wpAny_bind (wpAny_pure (wpAny_bind fin))
        | exact wpAny_bind fin
  · cases f with
    | next =>
      obtain ⟨σ', H', J', q⟩ := hsp
      exact wpAny_execs_nil ⟨σ', H', J'.ofTry ok, q⟩
    | brk =>
      obtain ⟨σ', H', J', q⟩ := hsp
      exact ⟨σ', H', J'.ofTry ok, q⟩
    | cont =>
      obtain ⟨σ', H', J', q⟩ := hsp
      exact ⟨σ', H', J'.ofTry ok, q⟩
    | ret u =>
      obtain ⟨v, σ', H', J', r, q⟩ := hsp
      exact ⟨v, σ', H', J'.ofTry ok, r, q⟩
end
/-- isinstance(e, c), e a kept exception -/
def rIsX (K : PySem.W.Frag) : List V → Hp → VK → Prop := fun xs H Q => ∃ (a D : Addr) (c : V) (cv : Value) (b : Bool), xs = [.ref a, c] ∧ H a = some (ExH (.ref D) a) ∧ ExcC K D ∧ (∀ u, RelV c u → u = cv) ∧ PySem.W.kitOne K (.ref D) cv = some b ∧ Q (.bl b) H
theorem call_isX {X : Cx} : CallR X (.builtin "isinstance") (rIsX X.K) := by
  intro pins s σ H xs us Q I r h
  obtain ⟨a, D, c, cv, b, rfl, ha, C, hcv, e, q⟩ := h
  cases r with
  | cons rx rr =>
    cases rr with
    | cons rt rr =>
      cases rr
      cases rx
      have ec := hcv _ rt
      subst ec
      obtain ⟨⟨oe, vs, hget, hz, hv⟩, _, _⟩ := I.hok a _ ha
      have J : PySem.W.InstAt s.heap a oe D none := by
        obtain ⟨oc, od, oda, osl⟩ := oe
        obtain ⟨h1, h2⟩ := hz
        dsimp only at h1 h2 hv
        subst h1 h2 hv
        exact ⟨hget, rfl, rfl, trivial⟩
      exact PySem.W.kia_one (PySem.W.handS_kitx_exc C.hg C.hk C.hs C.hd C.ha C.hn C.ht C.hm) I.kIn J e (fun z => nomatch z) fun tk => ⟨.bl b, H, I.kept (t' := tk) fun _ _ z => z, rfl, q⟩
end L2

namespace L2
open PySem PySem.Spec PyProof.Rows SeqAt MeetsSeq
/-- xs.count(b), xs of truths -/
theorem bools_are {us : List Value} {bs : List Bool} (h : Vals (bs.map V.bl) us) : us = bs.map Value.bool := by
  induction bs generalizing us with
  | nil => cases h; rfl
  | cons b bs ih =>
    cases h with
    | cons r t => cases r; rw [ih t]; rfl
theorem bl_gives (k : Bool) (A : Around) (s : Shared) : ∀ bs : List Bool, ∀ y ∈ bs.map Value.bool, EqAt A s y (.bool k) (isBoolOf k y)
  | [], y, hy => by cases hy
  | b :: bs, y, hy => by
    rcases List.mem_cons.mp hy with e | hy
    · rw [e]; exact EqAt.bool_bool b k
    · exact bl_gives k A s bs y hy
theorem bl_count (k : Bool) : ∀ bs : List Bool, (bs.map Value.bool).countP (isBoolOf k) = bs.count k
  | [] => rfl
  | b :: bs => by
    rw [List.map_cons, List.countP_cons, List.count_cons, bl_count k bs]
    rfl
def rCntB (K : PySem.W.Frag) : V → List V → Hp → VK → Prop := fun x xs H Q => ∃ (p : Addr) (bs : List Bool) (k : Bool), x = .ref p ∧ xs = [.bl k] ∧ SqL K H p (bs.map V.bl) ∧ Q (.int (bs.count k : Nat)) H
theorem mt_bcount {X : Cx} : MtR X "list.count" (rCntB X.K) := by
  intro pins s σ H x xs v us Q I rx rxs h
  obtain ⟨p, bs, k, rfl, rfl, hs, q⟩ := h
  cases rx
  obtain ⟨u, rfl, ru⟩ := rxs.one
  cases ru
  obtain ⟨its, rv, ⟨⟨cls, dd, data, sl⟩, n, ho, hc, hdn, hd⟩, hlen⟩ := I.list hs
  simp only at hc hd
  subst hc hd
  have hi := bools_are rv
  subst hi
  refine call_meets PySem.F.slot_list_count ⟨_, ho, rfl⟩ PySem.F.entry_list_count (PySem.F.args_list_count_2 _ _)
    (SeqAt.list_countAt p (bs.map Value.bool).toArray n dd sl (.bool k) (isBoolOf k)) ⟨ho, fun y hy => bl_gives k _ _ bs y (by simpa using hy), ?_⟩
  refine ⟨.int (bs.count k : Nat), H, I.tok _, ⟨s.toks, ?_⟩, q⟩
  show Value.int (((bs.map Value.bool).toArray.toList.countP (isBoolOf k) : Nat) : Int) s.toks = Value.int ((bs.count k : Nat) : Int) s.toks
  rw [show (bs.map Value.bool).toArray.toList = bs.map Value.bool from rfl, bl_count k bs]
end L2
namespace T
open PySem L2
/-- a kept exception, by its class's name -/
def rExc (K : PySem.W.Frag) : Rl Str := ⟨fun F v n => ∃ a, v = .ref a ∧ F a = some (ExH (.ref (He.ga K n)) a), fun s ⟨a, e, h⟩ => ⟨a, e, s _ _ h⟩⟩
section
variable {S S0 S1 T' α β γ δ Z Ω ρ ι : Type} {te ta tb : TE} {tt : TT} {ar : TA} {σ : L2.St} {F F' : Hp} {A : Ow S} {R : Rl α} {R' : Rl β} {U : Rl γ} {m : M S α} {m' : M S β} {v : V} {u t e w : TS} {P : Post Ω} {Q : Post ρ} {K : PySem.W.Frag} {E : XK} {W : WX} {X : Ow S0} {π : S → S0}
/-! ends of a def that may raise -/
def pRtX (K : PySem.W.Frag) (E : XK) (X : Ow S0) (R : Rl β) : Post ((β ⊕ Str) × S0) where
  p := fun w F O D => match w.1 with
    | .inl b => ∀ v F' H' c', Same F F' → X.o F' w.2 c' → Wd F' H' (c' ++ O) → R.r F' v b → D.rt v H'
    | .inr n => ∀ F' H' c', Same F F' → X.o F' w.2 c' → Wd F' H' (c' ++ O) → E (.ref (He.ga K n)) none H'
  mono := fun {w F F' O D} s h => by
    obtain ⟨w, s0⟩ := w
    cases w with
    | inl b => exact fun v F' H' c' s' => h v F' H' c' (s.trans s')
    | inr n => exact fun F' H' c' s' => h F' H' c' (s.trans s')
instance : RtO (pRtX K E X R') := ⟨fun {w F O D D'} e h => by
  obtain ⟨w, s0⟩ := w
  cases w with
  | inl b =>
    intro v F' H' c' s o W r
    rw [e]; exact h v F' H' c' s o W r
  | inr n => exact h⟩
/-- .. of one that returns nothing -/
def pEnX (K : PySem.W.Frag) (E : XK) (X : Ow S0) : Post ((Unit ⊕ Str) × S0) where
  p := fun w F O D => match w.1 with
    | .inl _ => ∀ F' H' c' σ', Same F F' → X.o F' w.2 c' → Wd F' H' (c' ++ O) → D.nx σ' H'
    | .inr n => ∀ F' H' c', Same F F' → X.o F' w.2 c' → Wd F' H' (c' ++ O) → E (.ref (He.ga K n)) none H'
  mono := fun {w F F' O D} s h => by
    obtain ⟨w, s0⟩ := w
    cases w with
    | inl b => exact fun F' H' c' σ' s' => h F' H' c' σ' (s.trans s')
    | inr n => exact fun F' H' c' s' => h F' H' c' (s.trans s')
/-- the body of a try -/
def pTry (K : PySem.W.Frag) (W : WX) (A : Ow S) (Sl : Z → Hp → L2.St → Prop) (Sx : Hp → L2.St → Prop) : Post ((Z × S) ⊕ (Str × S)) where
  p := fun w F O D => match w with
    | .inl q => (pNx A Sl).p q F O D
    | .inr q => ∀ F' H' c' σ', Same F F' → A.o F' q.2 c' → Wd F' H' (c' ++ O) → Sx F' σ' → W (.ref (He.ga K q.1)) none σ' H'
  mono := fun {w F F' O D} s h => by
    cases w with
    | inl b => exact (pNx A Sl).mono s h
    | inr n => exact fun F' H' c' σ' s' => h F' H' c' σ' (s.trans s')
/-! what is wanted of an end that may be a raise -/
def outP (K : PySem.W.Frag) (E : XK) (U : Rl γ) (F : Hp) (O : Ch) (Q : VK) : γ ⊕ Str → Prop
  | .inl b => ∀ v F' H', Same F F' → Wd F' H' O → U.r F' v b → Q v H'
  | .inr n => ∀ F' H', Same F F' → Wd F' H' O → E (.ref (He.ga K n)) none H'
def outS (K : PySem.W.Frag) (E : XK) (U : Rl γ) (B : Ow S1) (s' : S1) (F : Hp) (O : Ch) (Q : VK) : γ ⊕ Str → Prop
  | .inl b => ∀ v F' H' c', Same F F' → B.o F' s' c' → Wd F' H' (c' ++ O) → U.r F' v b → Q v H'
  | .inr n => ∀ F' H' c', Same F F' → B.o F' s' c' → Wd F' H' (c' ++ O) → E (.ref (He.ga K n)) none H'
/-! promises of defs that may raise -/
def spPX (K : PySem.W.Frag) (T : Ar α) (U : Rl γ) (f : α → Option (γ ⊕ Str)) : Sp := fun vs H Q E => ∃ F O x w, T.r F vs x ∧ Wd F H O ∧ f x = some w ∧ outP K E U F O Q w
def spSX (K : PySem.W.Frag) (T : ι → Ar α) (B : ι → Ow S1) (U : Rl γ) (f : α → M S1 (γ ⊕ Str)) : Sp := fun vs H Q E => ∃ (i : ι) (F : Hp) (O c : Ch) (x : α) (s : S1) (w : γ ⊕ Str) (s' : S1), (T i).r F vs x ∧ (B i).o F s c ∧ Wd F H (c ++ O) ∧ f x s = some (w, s') ∧ outS K E U (B i) s' F O Q w
/-! expressions that may raise -/
def EvX (K : PySem.W.Frag) (W : WX) (te : TE) (σ : L2.St) (F : Hp) (A : Ow S) (R : Rl α) (m : M S (α ⊕ Str)) : Prop :=
  ∀ s w s', m s = some (w, s') → ∀ F1 H c O, Same F F1 → A.o F1 s c → Wd F1 H (c ++ O) → ∀ Q : VK, (match w with
    | .inl b => ∀ v F' H' c', Same F1 F' → A.o F' s' c' → Wd F' H' (c' ++ O) → R.r F' v b → Q v H'
    | .inr n => ∀ F' H' c', Same F1 F' → A.o F' s' c' → Wd F' H' (c' ++ O) → W (.ref (He.ga K n)) none σ H') → te σ H Q
theorem evx_callP {T : Ar β} {f : β → Option (γ ⊕ Str)} (h : EvA ar σ F A T m') : EvX K W (tCallS (spPX K T U f) (WE W) ar) σ F A U (bnd m' fun x => lft (f x)) := fun s w s' hm F1 H c O sm ho Wd1 Q q => by
  obtain ⟨xs, s1, h1, hm⟩ := bnd_some hm
  obtain ⟨h2, rfl⟩ := lft_some hm
  refine h s _ _ h1 F1 H c O sm ho Wd1 _ fun vs F2 H2 c2 s2 o2 W2 r2 => ?_
  refine ⟨F2, c2 ++ O, xs, w, r2, W2, h2, ?_⟩
  cases w with
  | inl b => exact fun v F' H' s3 W3 r3 => q v F' H' c2 (s2.trans s3) (A.mono s3 o2) W3 r3
  | inr n => exact fun F' H' s3 W3 => q F' H' c2 (s2.trans s3) (A.mono s3 o2) W3
theorem evx_callS (i : ι) {T : ι → Ar β} {B : ι → Ow S1} {f : β → M S1 (γ ⊕ Str)} {g : S → S1} {p : S → S1 → S} (e : Emb A (B i) g p) (h : EvA ar σ F A (T i) m') : EvX K W (tCallS (spSX K T B U f) (WE W) ar) σ F A U (bnd m' fun x => zm g p (f x)) := fun s w s' hm F1 H c O sm ho Wd1 Q q => by
  obtain ⟨xs, s1, h1, hm⟩ := bnd_some hm
  obtain ⟨t, h2, rfl⟩ := zm_some hm
  refine h s _ _ h1 F1 H c O sm ho Wd1 _ fun vs F2 H2 c2 s2 o2 W2 r2 => ?_
  obtain ⟨c3, c4, pm, ob, k⟩ := e.split o2
  refine ⟨i, F2, c4 ++ O, c3, xs, g s1, w, t, r2, ob, W2.perm (by rw [← List.append_assoc]; exact pm.append_right O), h2, ?_⟩
  cases w with
  | inl b =>
    intro v F3 H3 c5 s3 o3 W3 r3
    obtain ⟨c', oc, pm2⟩ := k F3 t c5 s3 o3
    exact q v F3 H3 c' (s2.trans s3) oc (W3.perm (by rw [← List.append_assoc]; exact (pm2.append_right O).symm)) r3
  | inr n =>
    intro F3 H3 c5 s3 o3 W3
    obtain ⟨c', oc, pm2⟩ := k F3 t c5 s3 o3
    exact q F3 H3 c' (s2.trans s3) oc (W3.perm (by rw [← List.append_assoc]; exact (pm2.append_right O).symm))
/-- .. that doesn't raise here -/
def okO (o : Option (γ ⊕ Str)) : Option γ := o.bind fun w => match w with
  | .inl b => some b
  | .inr _ => none
def okM (f : M S (γ ⊕ Str)) : M S γ := fun s => (f s).bind fun w => match w.1 with
  | .inl b => some (b, w.2)
  | .inr _ => none
theorem okO_some {o : Option (γ ⊕ Str)} {b : γ} (h : okO o = some b) : o = some (.inl b) := by
  unfold okO at h
  cases o with
  | none => cases h
  | some w => cases w with
    | inl c => cases h; rfl
    | inr n => cases h
theorem okM_some {f : M S (γ ⊕ Str)} {s s' : S} {b : γ} (h : okM f s = some (b, s')) : f s = some (.inl b, s') := by
  unfold okM at h
  cases e : f s with
  | none => rw [e] at h; cases h
  | some w =>
    obtain ⟨w, s1⟩ := w
    rw [e] at h
    cases w with
    | inl c => cases h; rfl
    | inr n => cases h
theorem ev_callPX {T : Ar β} {f : β → Option (γ ⊕ Str)} {E : XK} (h : EvA ar σ F A T m') : Ev (tCall (spPX K T U f) [] E ar) σ F A U (bnd m' fun x => lft (okO (f x))) := fun s b s' hm F1 H c O sm ho Wd1 Q q => by
  obtain ⟨xs, s1, h1, hm⟩ := bnd_some hm
  obtain ⟨h2, rfl⟩ := lft_some hm
  refine h s _ _ h1 F1 H c O sm ho Wd1 _ fun vs F2 H2 c2 s2 o2 W2 r2 => ?_
  rw [List.append_nil]
  exact ⟨F2, c2 ++ O, xs, .inl b, r2, W2, okO_some h2, fun v F' H' s3 W3 r3 => q v F' H' c2 (s2.trans s3) (A.mono s3 o2) W3 r3⟩
theorem ev_callSX (i : ι) {T : ι → Ar β} {B : ι → Ow S1} {f : β → M S1 (γ ⊕ Str)} {E : XK} {g : S → S1} {p : S → S1 → S} (e : Emb A (B i) g p) (h : EvA ar σ F A (T i) m') : Ev (tCall (spSX K T B U f) [] E ar) σ F A U (bnd m' fun x => zm g p (okM (f x))) := fun s b s' hm F1 H c O sm ho Wd1 Q q => by
  obtain ⟨xs, s1, h1, hm⟩ := bnd_some hm
  obtain ⟨t, h2, rfl⟩ := zm_some hm
  refine h s _ _ h1 F1 H c O sm ho Wd1 _ fun vs F2 H2 c2 s2 o2 W2 r2 => ?_
  obtain ⟨c3, c4, pm, ob, k⟩ := e.split o2
  rw [List.append_nil]
  refine ⟨i, F2, c4 ++ O, c3, xs, g s1, .inl b, t, r2, ob, W2.perm (by rw [← List.append_assoc]; exact pm.append_right O), okM_some h2, ?_⟩
  intro v F3 H3 c5 s3 o3 W3 r3
  obtain ⟨c', oc, pm2⟩ := k F3 t c5 s3 o3
  exact q v F3 H3 c' (s2.trans s3) oc (W3.perm (by rw [← List.append_assoc]; exact (pm2.append_right O).symm)) r3
/-! what a raised exception does at a place -/
structure Rz (K : PySem.W.Frag) (W : WX) (A : Ow S) (P : Post Ω) (σ : L2.St) (F : Hp) (xz : Str → S → Ω) : Prop where
  rz : ∀ {n s F1 O D}, Same F F1 → P.p (xz n s) F1 O D → ∀ F' H' c', Same F1 F' → A.o F' s c' → Wd F' H' (c' ++ O) → W (.ref (He.ga K n)) none σ H'
abbrev WD (E : XK) : WX := fun c d _ H => E c d H
theorem rz_rt (pr : Pr A X π) : Rz K (WD E) A (pRtX K E X R') σ F (fun n s => (.inr n, π s)) := ⟨fun {n s F1 O D} sm h F' H' c' s' o W' => by
  obtain ⟨c3, o3, W3⟩ := Wd.pr pr o W'
  exact h F' H' c3 s' o3 W3⟩
theorem rz_en (pr : Pr A X π) : Rz K (WD E) A (pEnX K E X) σ F (fun n s => (.inr n, π s)) := ⟨fun {n s F1 O D} sm h F' H' c' s' o W' => by
  obtain ⟨c3, o3, W3⟩ := Wd.pr pr o W'
  exact h F' H' c3 s' o3 W3⟩
theorem rz_fl {Y : Ow S1} {Sl : Z → Hp → L2.St → Prop} {xz : Str → S → ρ} (h : Rz K W A Q σ F xz) : Rz K W A (pFlG Y Sl Q) σ F (fun n s => .rt (xz n s)) := ⟨fun {n s F1 O D} sm q => h.rz (D := D) sm q⟩
theorem rz_try {Sl : Z → Hp → L2.St → Prop} {Sx : Hp → L2.St → Prop} (h : ∀ F', Same F F' → Sx F' σ) : Rz K W A (pTry K W A Sl Sx) σ F (fun n s => .inr (n, s)) := ⟨fun {n s F1 O D} sm q F' H' c' s' o W' => q F' H' c' σ s' o W' (h F' (sm.trans s'))⟩
def bndX (xz : Str → S → Ω) (m : M S (α ⊕ Str)) (f : α → S → Option Ω) : S → Option Ω := fun s => (m s).bind fun p => match p.1 with
  | .inl x => f x p.2
  | .inr n => some (xz n p.2)
theorem bndX_some {xz : Str → S → Ω} {m : M S (α ⊕ Str)} {f : α → S → Option Ω} {s : S} {w : Ω} (h : bndX xz m f s = some w) : (∃ x s1, m s = some (.inl x, s1) ∧ f x s1 = some w) ∨ ∃ n s1, m s = some (.inr n, s1) ∧ w = xz n s1 := by
  unfold bndX at h
  cases e : m s with
  | none => rw [e] at h; cases h
  | some q =>
    obtain ⟨q, s1⟩ := q
    rw [e] at h
    cases q with
    | inl x => exact .inl ⟨x, s1, rfl, h⟩
    | inr n => exact .inr ⟨n, s1, rfl, (Option.some.inj h).symm⟩
variable {xz : Str → S → Ω} {mx : M S (α ⊕ Str)}
theorem b_setX {i : Nat} {f : α → S → Option Ω} (z : ∀ F', Same F F' → Rz K W A P σ F' xz) (he : EvX K W te σ F A R mx) (k : ∀ v x F', Same F F' → R.r F' v x → B u (σ.set i (some v)) F' A P (f x)) : B (tSeq (tAsg te (gName i)) u) σ F A P (bndX xz mx f) := fun s w hm F1 H c O sm ho W1 D q => by
  rcases bndX_some hm with ⟨x, s1, h1, hm⟩ | ⟨n, s1, h1, rfl⟩
  · exact he s _ s1 h1 F1 H c O sm ho W1 _ fun v F2 H2 c2 s2 o2 W2 r2 => k v x F2 (sm.trans s2) r2 s1 w hm F2 H2 c2 O (SameR _) o2 W2 D (P.mono s2 q)
  · exact he s _ s1 h1 F1 H c O sm ho W1 _ fun F2 H2 c2 s2 o2 W2 => (z F1 sm).rz (D := D) (SameR _) q F2 H2 c2 s2 o2 W2
theorem b_exprX {f : α → S → Option Ω} (z : ∀ F', Same F F' → Rz K W A P σ F' xz) (he : EvX K W te σ F A R mx) (k : ∀ x F', Same F F' → B u σ F' A P (f x)) : B (tSeq (tDrop te) u) σ F A P (bndX xz mx f) := fun s w hm F1 H c O sm ho W1 D q => by
  rcases bndX_some hm with ⟨x, s1, h1, hm⟩ | ⟨n, s1, h1, rfl⟩
  · exact he s _ s1 h1 F1 H c O sm ho W1 _ fun v F2 H2 c2 s2 o2 W2 r2 => k x F2 (sm.trans s2) s1 w hm F2 H2 c2 O (SameR _) o2 W2 D (P.mono s2 q)
  · exact he s _ s1 h1 F1 H c O sm ho W1 _ fun F2 H2 c2 s2 o2 W2 => (z F1 sm).rz (D := D) (SameR _) q F2 H2 c2 s2 o2 W2
theorem b_unpX {g : TG} {f : α → S → Option Ω} {k : V → α → Hp → L2.St → Prop} (z : ∀ F', Same F F' → Rz K W A P σ F' xz) (he : EvX K W te σ F A R mx) (hg : ∀ v x F', Same F F' → R.r F' v x → Go g v σ F' (k v x F')) (hk : ∀ v x F' σ2, Same F F' → R.r F' v x → k v x F' σ2 → B u σ2 F' A P (f x)) :
    B (tSeq (tAsg te g) u) σ F A P (bndX xz mx f) := fun s w hm F1 H c O sm ho W1 D q => by
  rcases bndX_some hm with ⟨x, s1, h1, hm⟩ | ⟨n, s1, h1, rfl⟩
  · refine he s _ s1 h1 F1 H c O sm ho W1 _ fun v F2 H2 c2 s2 o2 W2 r2 => ?_
    exact hg v x F2 (sm.trans s2) r2 F2 H2 _ (SameR _) W2 _ fun σ2 k2 => hk v x F2 σ2 (sm.trans s2) r2 k2 s1 w hm F2 H2 c2 O (SameR _) o2 W2 D (P.mono s2 q)
  · exact he s _ s1 h1 F1 H c O sm ho W1 _ fun F2 H2 c2 s2 o2 W2 => (z F1 sm).rz (D := D) (SameR _) q F2 H2 c2 s2 o2 W2
/-- return of a thing, in a def that may raise -/
theorem b_retX (pr : Pr A X π) (he : Ev te σ F A R m) : B (tSeq (tRet te) u) σ F A (pRtX K E X R) (bnd m fun x s => some (.inl x, π s)) := fun s w hm F1 H c O sm ho W D q => by
  obtain ⟨x, s1, h1, hm⟩ := bnd_some hm
  cases hm
  refine he s x s1 h1 F1 H c O sm ho W _ fun v F2 H2 c2 s2 o2 W2 r2 => ?_
  obtain ⟨c3, o3, W3⟩ := Wd.pr pr o2 W2
  exact q v F2 H2 c3 s2 o3 W3 r2
/-- return f(..), f may raise -/
theorem b_retXX (pr : Pr A X π) (he : EvX K (WD E) te σ F A R mx) : B (tSeq (tRet te) u) σ F A (pRtX K E X R) (bndX (fun n s => (.inr n, π s)) mx fun x s => some (.inl x, π s)) := fun s w hm F1 H c O sm ho W D q => by
  rcases bndX_some hm with ⟨x, s1, h1, hm⟩ | ⟨n, s1, h1, rfl⟩
  · cases hm
    refine he s _ s1 h1 F1 H c O sm ho W _ fun v F2 H2 c2 s2 o2 W2 r2 => ?_
    obtain ⟨c3, o3, W3⟩ := Wd.pr pr o2 W2
    exact q v F2 H2 c3 s2 o3 W3 r2
  · refine he s _ s1 h1 F1 H c O sm ho W _ fun F2 H2 c2 s2 o2 W2 => ?_
    obtain ⟨c3, o3, W3⟩ := Wd.pr pr o2 W2
    exact q F2 H2 c3 s2 o3 W3
theorem b_endX (pr : Pr A X π) : B tNext σ F A (pEnX K E X) (fun s => some (.inl (), π s)) := fun s w hm F1 H c O sm ho W D q => by
  cases hm
  obtain ⟨c3, o3, W3⟩ := Wd.pr pr ho W
  exact q F1 H c3 σ (SameR _) o3 W3
/-- raise X('..') -/
def tRaise (K : PySem.W.Frag) (W : WX) (n : Str) : TS := fun _ σ H => W (.ref (He.ga K n)) none σ H
theorem b_raise {n : Str} (z : ∀ F', Same F F' → Rz K W A P σ F' xz) : B (tSeq (tRaise K W n) u) σ F A P (fun s => some (xz n s)) := fun s w hm F1 H c O sm ho W1 D q => by
  cases hm
  exact (z F1 sm).rz (D := D) (SameR _) q F1 H c (SameR _) ho W1
/-- if t: raise X('..') -/
theorem b_ifRaise {n : Str} {mb : M S Bool} {g : S → Option Ω} (z : ∀ F', Same F F' → Rz K W A P σ F' xz) (hc : EvT tt σ F A mb) (hw : ∀ F', Same F F' → B w σ F' A P g) : B (tSeq (tIfS tt (tSeq (tRaise K W n) tNext) tNext) w) σ F A P (bnd mb fun b => bif b then (fun s => some (xz n s)) else g) := fun s r hm F1 H c O sm ho W1 D q => by
  obtain ⟨b, s1, h1, hm⟩ := bnd_some hm
  refine hc s b s1 h1 F1 H c O sm ho W1 _ fun F2 H2 c2 s2 o2 W2 => ?_
  cases b with
  | true =>
    obtain rfl : xz n s1 = r := Option.some.inj hm
    exact iteT ((z F1 sm).rz (D := D) (SameR _) q F2 H2 c2 s2 o2 W2)
  | false => exact iteF (hw F2 (sm.trans s2) s1 r hm F2 H2 c2 O (SameR _) o2 W2 D (P.mono s2 q))
/-- both ways at the block's end -/
theorem b_ifEnd {mb : M S Bool} {f g : S → Option Ω} (hc : EvT tt σ F A mb) (ht : B t σ F A P f) (he : B e σ F A P g) : B (tSeq (tIfS tt t e) tNext) σ F A P (bnd mb fun b => bif b then f else g) := fun s r hm F1 H c O sm ho W1 D q => by
  obtain ⟨b, s1, h1, hm⟩ := bnd_some hm
  refine hc s b s1 h1 F1 H c O sm ho W1 _ fun F2 H2 c2 s2 o2 W2 => ?_
  cases b with
  | true => exact iteT (ht s1 r hm F2 H2 c2 O (sm.trans s2) o2 W2 D (P.mono s2 q))
  | false => exact iteF (he s1 r hm F2 H2 c2 O (sm.trans s2) o2 W2 D (P.mono s2 q))
/-! the ends of defs that may raise -/
theorem ok_PX {Q : VK} {t : TS} {σ : L2.St} {F H : Hp} {O : Ch} {w : β ⊕ Str} {m : M Unit (β ⊕ Str)} (W : Wd F H O) (hm : rn m = some w) (q : outP K E R' F O Q w) (h : B t σ F emp (pRtX K E emp R') m) : t { nx := fun _ H' => Q .non H', rt := Q } σ H := by
  refine h () (w, ()) (rn_some hm) F H [] O (SameR _) rfl W _ ?_
  cases w with
  | inl b => exact fun v F' H' c' s o W' r => q v F' H' s (by rw [show c' = [] from o] at W'; exact W') r
  | inr n => exact fun F' H' c' s o W' => q F' H' s (by rw [show c' = [] from o] at W'; exact W')
theorem ok_PNX {Q : VK} {t : TS} {σ : L2.St} {F H : Hp} {O : Ch} {w : Unit ⊕ Str} {m : M Unit (Unit ⊕ Str)} (W : Wd F H O) (hm : rn m = some w) (q : outP K E rNone F O Q w) (h : B t σ F emp (pEnX K E emp) m) : t { nx := fun _ H' => Q .non H', rt := Q } σ H := by
  refine h () (w, ()) (rn_some hm) F H [] O (SameR _) rfl W _ ?_
  cases w with
  | inl b => exact fun F' H' c' σ' s o W' => q .non F' H' s (by rw [show c' = [] from o] at W'; exact W') rfl
  | inr n => exact fun F' H' c' s o W' => q F' H' s (by rw [show c' = [] from o] at W'; exact W')
theorem ok_SX {Q : VK} {t : TS} {σ : L2.St} {F H : Hp} {c O : Ch} {s s' : S} {w : β ⊕ Str} {m : M S (β ⊕ Str)} (W : Wd F H (c ++ O)) (ho : A.o F s c) (hm : m s = some (w, s')) (q : outS K E R' A s' F O Q w) (h : B t σ F A (pRtX K E A R') m) : t { nx := fun _ H' => Q .non H', rt := Q } σ H := by
  refine h s (w, s') hm F H c O (SameR _) ho W _ ?_
  cases w with
  | inl b => exact q
  | inr n => exact q
theorem ok_SNX {Q : VK} {t : TS} {σ : L2.St} {F H : Hp} {c O : Ch} {s s' : S} {w : Unit ⊕ Str} {m : M S (Unit ⊕ Str)} (W : Wd F H (c ++ O)) (ho : A.o F s c) (hm : m s = some (w, s')) (q : outS K E rNone A s' F O Q w) (h : B t σ F A (pEnX K E A) m) : t { nx := fun _ H' => Q .non H', rt := Q } σ H := by
  refine h s (w, s') hm F H c O (SameR _) ho W _ ?_
  cases w with
  | inl b => exact fun F' H' c' σ' s o W' => q .non F' H' c' s o W' rfl
  | inr n => exact q
/-! try: .. except C as e: error = e -/
def tryM (cat : List Str) (zx : Str → Z) (m : S → Option ((Z × S) ⊕ (Str × S))) : M S Z := fun s => (m s).bind fun w => match w with
  | .inl q => some q
  | .inr q => if q.1 ∈ cat then some (zx q.1, q.2) else none
abbrev tKeep (i j : Nat) : Addr → Value → Option Addr → TS := fun _ _ _ => tSeq (tAsg (tVar i) (gName j)) tNext
theorem b_try {tb : WX → TS} {C : Str} {i j : Nat} {cat : List Str} {zx : Str → Z} {Sl : Z → Hp → L2.St → Prop} {Sx : Hp → L2.St → Prop} {Wout : WX} {mb : S → Option ((Z × S) ⊕ (Str × S))} {f : Z → S → Option Ω} (hcat : ∀ n ∈ cat, PySem.W.exmOne K (.ref (He.ga K n)) (.ref (He.ga K C)) = some true)
    (hi : ∀ F' σ', Sx F' σ' → i < σ'.length) (hb : ∀ W, B (tb W) σ F A (pTry K W A Sl Sx) mb) (hx : ∀ n v F' σ', Same F F' → Sx F' σ' → (rExc K).r F' v n → Sl (zx n) F' (((σ'.set i (some v)).set j (some v)).set i none))
    (hS : ∀ F F' σ', Same F F' → Sx F σ' → Sx F' σ') (k : ∀ z F' σ', Same F F' → Sl z F' σ' → B u σ' F' A P (f z)) : B (Evl.tCut (fun D σ H => tb (wKeep K (.ref (He.ga K C)) i (tKeep i j) Wout D) D σ H) u) σ F A P (bnd (tryM cat zx mb) f) := fun s r hm F1 H c O sm ho W1 D q => by
  obtain ⟨z, s2, h1, hm⟩ := bnd_some hm
  unfold tryM at h1
  cases e0 : mb s with
  | none => rw [e0] at h1; cases h1
  | some w =>
    rw [e0] at h1
    refine ⟨fun σ' H' => ∃ F' c', Same F1 F' ∧ A.o F' s2 c' ∧ Wd F' H' (c' ++ O) ∧ Sl z F' σ', ?_, fun σ' H' ⟨F', c', s', o', W', sl⟩ => k z F' σ' (sm.trans s') sl s2 r hm F' H' c' O (SameR _) o' W' D (P.mono s' q)⟩
    refine hb _ s w e0 F1 H c O sm ho W1 _ ?_
    cases w with
    | inl p =>
      cases h1
      exact fun F3 H3 c3 σ3 s3 o3 W3 sl => ⟨F3, c3, s3, o3, W3, sl⟩
    | inr p =>
      obtain ⟨n, s3⟩ := p
      have hn : n ∈ cat := by
        by_cases hn : n ∈ cat
        · exact hn
        · simp [hn] at h1
      simp [hn] at h1
      obtain ⟨rfl, rfl⟩ := h1
      intro F3 H3 c3 σ3 sm3 o3 W3 sx
      refine ⟨true, hcat n hn, rfl, fun _ a na => ?_, fun q => nomatch q⟩
      have hl := hi F3 σ3 sx
      have sF := W3.sameF (o := ExH (.ref (He.ga K n)) a) na
      refine ⟨.ref a, by simp [hl], ?_⟩
      refine ⟨upd F3 a (ExH (.ref (He.ga K n)) a), c3, sm3.trans sF, A.mono sF o3, W3.newF na, ?_⟩
      exact hx n (.ref a) _ σ3 ((sm.trans sm3).trans sF) (hS _ _ _ sF sx) ⟨a, rfl, upd_same⟩
/-! isinstance of a kept exception -/
theorem vl_isX {c : V} {cat : List Str} {fb : Str → Bool} (hk : ∀ n ∈ cat, ExcC K (He.ga K n) ∧ ∃ cv, (∀ u, RelV c u → u = cv) ∧ PySem.W.kitOne K (.ref (He.ga K n)) cv = some (fb n)) : VLc (rIsX K) (arC (rExc K) (arOne (rV c))) rBool (fun x => if x.1 ∈ cat then some (fb x.1) else none) := fun F H O xs a b W ⟨v, r, e, ⟨p, ev, hp⟩, v2, e2, e3⟩ hf Q q => by
  by_cases hn : a.1 ∈ cat
  · simp only [hn, if_true] at hf
    cases hf
    obtain ⟨ex, cv, hc, hkit⟩ := hk _ hn
    exact ⟨p, He.ga K a.1, c, cv, fb a.1, by rw [e, e2, ev, show v2 = c from e3], W.sub _ _ hp, ex, hc, hkit, q _ F H (SameR _) W rfl⟩
  · simp only [hn, if_false] at hf
    cases hf
/-- xs.count(b), xs of truths -/
theorem ev_countB {tx ty : TE} {ml : M S (List Bool)} {mb : M S Bool} (h : Ev tx σ F A (rLst rBool) ml) (h' : Ev ty σ F A rBool mb) : Ev (tBM K "list" (rCntB K) tx (tCons ty tNil)) σ F A rInt (bnd ml fun xs => bnd mb fun y => ret (xs.count y : Int)) := fun s b s' hm F1 H c O sm ho W Q q => by
  obtain ⟨xs, s1, h1, hm⟩ := bnd_some hm
  obtain ⟨y, s2, h2, hm⟩ := bnd_some hm
  obtain ⟨rfl, rfl⟩ := ret_some hm
  refine h s _ _ h1 F1 H c O sm ho W _ fun v F2 H2 c2 sm2 o2 W2 r2 => ?_
  obtain ⟨p, vs, rfl, hp, rp⟩ := r2
  have evs : vs = xs.map V.bl := vs_bl rp
  refine ⟨Or.inl ⟨rfl, vs, SqL.of (W2.sub _ _ hp)⟩, ?_⟩
  refine h' s1 _ _ h2 F2 H2 c2 O (sm.trans sm2) o2 W2 _ fun w F3 H3 c3 sm3 o3 W3 r3 => ?_
  exact ⟨p, xs, y, rfl, by rw [show w = .bl y from r3], by rw [← evs]; exact SqL.of (W3.sub _ _ (sm3 _ _ hp)), q _ F3 H3 c3 (sm2.trans sm3) o3 W3 rfl⟩
end
end T

/-! T25: terms of defs that raise; sums; a head that tells exceptions. -/
namespace T
open PySem L2
/-- an exception class of the program's own, without __init__ -/
structure XcT (K : PySem.W.Frag) (mg : Str → Option Value) (n : Str) : Prop where
  g : mg n = some (.ref (He.ga K n))
  q : PySem.W.excIn K (He.ga K n) He.veBase "ValueError.__new__" = true
  k : PySem.W.keepIn K (.ref (He.ga K n)) = true
  b : PySem.W.subIn K (.ref (He.ga K n)) (.type "BaseException") = some true
  t : PySem.W.typeIn K (.ref (He.ga K n)) = some (.type "type")
section
variable {X : Cx} {W : WX} {K : PySem.W.Frag}
theorem ps_raiseX {n m : Str} {j : Nat} {p p2 pos pos' : Pos} (hc : X.calm = true) (tk : Takes X W) (Tx : XcT K X.mg n) (hg : Gl X n) (e : X.K = K := by rfl) (hdb : (n == ("__debug__" : Str)) = false := by decide) : PS X (.Raise (some (.Call (.Name n p) [.Constant (.str m) j p2] [] pos)) none pos') (tRaise K W n) := by
  subst e
  exact ps_raise hc tk (pmk_own PySem.F.excBase_ValueError Tx.q Tx.g Tx.k (raises_own Tx.b Tx.t) hg hdb)
theorem names_X {n : Str} (Tx : XcT K X.mg n) (hg : Gl X n) (hdb : (n == ("__debug__" : Str)) = false := by decide) : Names X n (.ref (He.ga K n)) := ⟨hg, hdb, .inl Tx.g⟩
theorem pe_knS {k j : Nat} {x : Str} {ps : List Str} {sp : Sp} {p pos : Pos} {e : Expr} {es : List Expr} {t : TA} (h : Kn X.prog X.w X.K X.mg X.base (L2.CX X.prog X.w) j x ps sp) (tk : Takes X W) (hr : Room k X.A) (hj : j ≤ k) (hg : Gl X x) (ha : PA X (e :: es) t) (hdb : (x == ("__debug__" : Str)) = false := by decide)
    (he : starEach (e :: es) X.env = (false, eval e X.env) :: starEach es X.env := by rfl) (hpl : (backTo pos (starEach es X.env)).any (·.1) = false := by rfl) : PE X (.Call (.Name x p) (e :: es) [] pos) (tCallS sp (WE W) t) := by
  obtain ⟨f, fd, h1, h2, h3, h4⟩ := h.ex
  exact pe_callS h4 (hr.mono hj) hg h1 h2 h3 (fun σ => passAt tk σ) ha hdb he hpl
theorem pe_knL {k j : Nat} {x : Str} {ps : List Str} {sp : Sp} {p pos : Pos} {e : Expr} {es : List Expr} {t : TA} (h : Kn X.prog X.w X.K X.mg X.base (L2.CX X.prog X.w) j x ps sp) (hr : Room k X.A) (hj : j ≤ k) (hg : Gl X x) (ha : PA X (e :: es) t) (hdb : (x == ("__debug__" : Str)) = false := by decide)
    (he : starEach (e :: es) X.env = (false, eval e X.env) :: starEach es X.env := by rfl) (hpl : (backTo pos (starEach es X.env)).any (·.1) = false := by rfl) : PE X (.Call (.Name x p) (e :: es) [] pos) (tCall sp [] E0 t) := by
  obtain ⟨f, fd, h1, h2, h3, h4⟩ := h.ex
  exact pe_call h4 (hr.mono hj) hg h1 h2 h3 .nil passL ha hdb he hpl
end
instance {K : PySem.W.Frag} : NotNon (rExc K) := ⟨fun _ _ _ ⟨_, e, _⟩ => by subst e; simp⟩
instance {α β : Type} {R : Rl α} {R' : Rl β} [a : NotNon R] [b : NotNon R'] : NotNon (rSum R R') := ⟨fun F v x h => by
  cases x with
  | inl y => exact a.nn F v y h
  | inr y => exact b.nn F v y h⟩
theorem b_nxT {S S1 Z : Type} {σ : L2.St} {F : Hp} {A : Ow S} {X : Ow S1} {K : PySem.W.Frag} {W : WX} {π : S → S1} {Sl : Z → Hp → L2.St → Prop} {Sx : Hp → L2.St → Prop} {z : Z} (pr : Pr A X π) (h : ∀ F', Same F F' → Sl z F' σ) : B tNext σ F A (pTry K W X Sl Sx) (fun s => some (.inl (z, π s))) := fun s w hm F1 H c O sm ho W1 D q => by
  cases hm
  obtain ⟨c3, o3, W3⟩ := Wd.pr pr ho W1
  exact q F1 H c3 σ (SameR _) o3 W3 (h F1 sm)
theorem ev_cV {S : Type} {v : V} {σ : L2.St} {F : Hp} {A : Ow S} : Ev (tC v) σ F A (rV v) (ret ()) := fun s b s' hm F1 H c O sm ho W Q q => by
  obtain ⟨_, rfl⟩ := ret_some hm
  exact q v F1 H c (SameR _) ho W rfl
/-! one of two -/
def dSum {α β : Type} {R : Rl α} {R' : Rl β} (D : RD R) (D' : RD R') : RD (rSum R R') := ⟨fun x => match x with
  | .inl a => D.d a
  | .inr b => D'.d b, fun {K F v x} h => by
    cases x with
    | inl a => exact D.dp h
    | inr b => exact D'.dp h⟩
def unL {α β : Type} : α ⊕ β → Option α
  | .inl a => some a
  | .inr _ => none
def unR {α β : Type} : α ⊕ β → Option β
  | .inl _ => none
  | .inr b => some b
section
variable {S α β : Type} {R : Rl α} {R' : Rl β} {σ : L2.St} {F : Hp} {A : Ow S} {te : TE} {m : M S (α ⊕ β)}
theorem ev_unL (h : Ev te σ F A (rSum R R') m) : Ev te σ F A R (bnd m fun x => lft (unL x)) := fun s b s' hm F1 H c O sm ho W Q q => by
  obtain ⟨x, s1, h1, hm⟩ := bnd_some hm
  obtain ⟨h2, rfl⟩ := lft_some hm
  refine h s x _ h1 F1 H c O sm ho W _ fun v F2 H2 c2 s2 o2 W2 r2 => ?_
  cases x with
  | inl a => cases h2; exact q v F2 H2 c2 s2 o2 W2 r2
  | inr b => cases h2
theorem ev_unR (h : Ev te σ F A (rSum R R') m) : Ev te σ F A R' (bnd m fun x => lft (unR x)) := fun s b s' hm F1 H c O sm ho W Q q => by
  obtain ⟨x, s1, h1, hm⟩ := bnd_some hm
  obtain ⟨h2, rfl⟩ := lft_some hm
  refine h s x _ h1 F1 H c O sm ho W _ fun v F2 H2 c2 s2 o2 W2 r2 => ?_
  cases x with
  | inl a => cases h2
  | inr b => cases h2; exact q v F2 H2 c2 s2 o2 W2 r2
end
/-! the head -/
def ec (a b : Option (Option Value)) : Bool := decide (a = b)
def excB (K : PySem.W.Frag) (n : Str) (ms : List (Str × Bool × Bool)) : Bool :=
  ec (PySem.W.findIn K (.ref (He.ga K n)) "__getattribute__") (some (some (.builtin "BaseException.__getattribute__"))) && (ec (PySem.W.findIn K (.ref (He.ga K n)) "__getattr__") (some none) &&
  (decide (PySem.W.subIn K (.ref (He.ga K n)) (.type "BaseException") = some true) && (PySem.W.hasDictIn K (He.ga K n) && (ec (PySem.W.findIn K (.ref (He.ga K n)) "__class__") (some (some (.builtin "object.__class__"))) &&
  (ec (PySem.W.specialIn K (.builtin "object.__class__") "__get__") (some (some (.builtin "getset_descriptor.__get__"))) && (decide (PySem.W.takesIn K (.builtin "object.__class__") = some true) && (decide (PySem.W.mroIn K (He.ga K n) (.type "object") = some true) &&
  ms.all fun q => decide (PySem.W.kitOne K (.ref (He.ga K n)) (if q.2.1 = true then .type "ValueError" else .ref (He.ga K q.1)) = some q.2.2))))))))
theorem excB_ok {K : PySem.W.Frag} {n : Str} {ms : List (Str × Bool × Bool)} (h : excB K n ms = true) : ExcC K (He.ga K n) ∧ ∀ q ∈ ms, PySem.W.kitOne K (.ref (He.ga K n)) (if q.2.1 = true then .type "ValueError" else .ref (He.ga K q.1)) = some q.2.2 := by
  unfold excB at h
  obtain ⟨h1, h⟩ := He.ba h
  obtain ⟨h2, h⟩ := He.ba h
  obtain ⟨h3, h⟩ := He.ba h
  obtain ⟨h4, h⟩ := He.ba h
  obtain ⟨h5, h⟩ := He.ba h
  obtain ⟨h6, h⟩ := He.ba h
  obtain ⟨h7, h⟩ := He.ba h
  obtain ⟨h8, h⟩ := He.ba h
  exact ⟨⟨of_decide_eq_true h1, of_decide_eq_true h2, of_decide_eq_true h3, h4, of_decide_eq_true h5, of_decide_eq_true h6, of_decide_eq_true h7, of_decide_eq_true h8⟩, fun q hq => of_decide_eq_true (List.all_eq_true.mp h q hq)⟩
abbrev XTab := List (Str × List (Str × Bool × Bool))
def obsX (xs : XTab) (tb : List (Str × List He.Dv)) (fa : List He.Fa) (fn : List He.DefD) (K : PySem.W.Frag) : Bool × Bool × He.AlD := (xs.all fun q => excB K q.1 q.2, obsT tb fa fn K)
def valX (fn : List He.DefD) : Bool × Bool × He.AlD := (true, valT fn)
def SaysX (xs : XTab) (tb : List (Str × List He.Dv)) (fa : List He.Fa) (fn : List He.DefD) (K : PySem.W.Frag) : Prop := obsX xs tb fa fn K = valX fn
def hookX (n : Nat) (xs : XTab) (tb : List (Str × List He.Dv)) (fa : List He.Fa) (fn : List He.DefD) : PySem.W.Hook where
  α := Bool × Bool × He.AlD
  obs s := obsX xs tb fa fn (He.frG s.heap.get? (He.asD s.heap.get? n))
  val _ := valX fn
  says _ h := ∃ K1 : PySem.W.Frag, K1.In h ∧ SaysX xs tb fa fn K1
  of _ _ e := ⟨_, He.frG_in, e⟩
  keeps _ _ _ z k := by
    obtain ⟨K1, h1, c1⟩ := z
    exact ⟨K1, PySem.W.Frag.In.keeps h1 k, c1⟩
theorem obsX_eq {n : Nat} {xs : XTab} {tb : List (Str × List He.Dv)} {fa : List He.Fa} {fn : List He.DefD} {g : Addr → Option Obj} {s : Shared} (h : ∀ a, g a = s.heap.get? a) : obsX xs tb fa fn (He.frG g (He.asD g n)) = (hookX n xs tb fa fn).obs s := by
  obtain rfl : g = s.heap.get? := funext h
  rfl
theorem SaysX.T {xs : XTab} {tb : List (Str × List He.Dv)} {fa : List He.Fa} {fn : List He.DefD} {K : PySem.W.Frag} (c : SaysX xs tb fa fn K) : SaysT tb fa fn K := congrArg Prod.snd c
theorem SaysX.x {xs : XTab} {tb : List (Str × List He.Dv)} {fa : List He.Fa} {fn : List He.DefD} {K : PySem.W.Frag} (c : SaysX xs tb fa fn K) {n : Str} {ms : List (Str × Bool × Bool)} (h : (n, ms) ∈ xs) : ExcC K (He.ga K n) ∧ ∀ q ∈ ms, PySem.W.kitOne K (.ref (He.ga K n)) (if q.2.1 = true then .type "ValueError" else .ref (He.ga K q.1)) = some q.2.2 := by
  have c1 : (xs.all fun q => excB K q.1 q.2) = true := congrArg Prod.fst c
  exact excB_ok (List.all_eq_true.mp c1 (n, ms) h)
end T
namespace T
open PySem L2
section
variable {S α β : Type} {R : Rl α} {R' : Rl β} {σ : L2.St} {F : Hp} {A : Ow S} {te : TE} {K : PySem.W.Frag}
theorem paired_map2 {γ : Type} {Q : V → α → Prop} {Q' : V → γ → Prop} {f : α → γ} (h : ∀ v x, Q v x → Q' v (f x)) : ∀ {vs : List V} {xs : List α}, Paired Q vs xs → Paired Q' vs (xs.map f)
  | _, _, .nil => .nil
  | _, _, .cons r t => .cons (h _ _ r) (paired_map2 h t)
theorem ev_tupL {m : M S (List α)} (h : Ev te σ F A (rTup R) m) : Ev te σ F A (rTup (rSum R R')) (bnd m fun x => ret (x.map Sum.inl)) := fun s b s' hm F1 H c O sm ho W Q q => by
  obtain ⟨x, s1, h1, hm⟩ := bnd_some hm
  obtain ⟨rfl, rfl⟩ := ret_some hm
  exact h s x _ h1 F1 H c O sm ho W _ fun v F2 H2 c2 s2 o2 W2 ⟨p, vs, e, hp, rp⟩ => q v F2 H2 c2 s2 o2 W2 ⟨p, vs, e, hp, paired_map2 (Q' := (rSum R R').r F2) (f := Sum.inl) (fun _ _ r => r) rp⟩
theorem ev_tupR {m : M S (List β)} (h : Ev te σ F A (rTup R') m) : Ev te σ F A (rTup (rSum R R')) (bnd m fun x => ret (x.map Sum.inr)) := fun s b s' hm F1 H c O sm ho W Q q => by
  obtain ⟨x, s1, h1, hm⟩ := bnd_some hm
  obtain ⟨rfl, rfl⟩ := ret_some hm
  exact h s x _ h1 F1 H c O sm ho W _ fun v F2 H2 c2 s2 o2 W2 ⟨p, vs, e, hp, rp⟩ => q v F2 H2 c2 s2 o2 W2 ⟨p, vs, e, hp, paired_map2 (Q' := (rSum R R').r F2) (f := Sum.inr) (fun _ _ r => r) rp⟩
theorem ev_th2U {m : M S (α × β)} (h : Ev te σ F A (rTh (arC R (arOne R'))) m) : Ev te σ F A (rTup (rSum R R')) (bnd m fun x => ret [Sum.inl x.1, Sum.inr x.2]) := fun s b s' hm F1 H c O sm ho W Q q => by
  obtain ⟨x, s1, h1, hm⟩ := bnd_some hm
  obtain ⟨rfl, rfl⟩ := ret_some hm
  exact h s x _ h1 F1 H c O sm ho W _ fun v F2 H2 c2 s2 o2 W2 ⟨p, vs, e, hp, v1, _, e1, r1, v2, e2, r2⟩ => q v F2 H2 c2 s2 o2 W2 ⟨p, vs, e, hp, by rw [e1, e2]; exact .cons r1 (.cons r2 .nil)⟩
theorem isi_sum {n : String} {bb : Bool} (h1 : ∀ F H v x, Same F H → R.r F v x → ∃ t, TyX K H v (.type t) ∧ PySem.W.kitOne K (.type t) (.type n) = some bb) (h2 : ∀ F H v x, Same F H → R'.r F v x → ∃ t, TyX K H v (.type t) ∧ PySem.W.kitOne K (.type t) (.type n) = some bb) :
    ∀ F H v x, Same F H → (rSum R R').r F v x → ∃ t, TyX K H v (.type t) ∧ PySem.W.kitOne K (.type t) (.type n) = some bb := fun F H v x s r => by
  cases x with
  | inl a => exact h1 F H v a s r
  | inr b => exact h2 F H v b s r
theorem vl_sum {γ : Type} {U : Rl γ} {r : List V → Hp → VK → Prop} {f : α → Option γ} {g : β → Option γ} (h1 : VLc r (arOne R) U f) (h2 : VLc r (arOne R') U g) : VLc r (arOne (rSum R R')) U (Sum.elim f g) := fun F H O xs a c W ⟨v, e, rv⟩ hf Q q => by
  cases a with
  | inl a => exact h1 F H O xs a c W ⟨v, e, rv⟩ hf Q q
  | inr b => exact h2 F H O xs b c W ⟨v, e, rv⟩ hf Q q
end
section
variable {K : PySem.W.Frag}
theorem vl_inST : VL2 (rIn K false) rStr (rTup rStr) rBool (fun a xs => some (xs.any fun b => decide (b = a))) := vl_in (f := V.str) (fun _ _ _ h => h) (fun _ => rfl) (fun a b => eqV_str b a) true
theorem vl_niST : VL2 (rIn K true) rStr (rTup rStr) rBool (fun a xs => some (!xs.any fun b => decide (b = a))) := vl_in (f := V.str) (fun _ _ _ h => h) (fun _ => rfl) (fun a b => eqV_str b a) true
theorem vl_inSL : VL2 (rIn K false) rStr (rLst rStr) rBool (fun a xs => some (xs.any fun b => decide (b = a))) := vl_in (f := V.str) (fun _ _ _ h => h) (fun _ => rfl) (fun a b => eqV_str b a) false
theorem vl_niSL : VL2 (rIn K true) rStr (rLst rStr) rBool (fun a xs => some (!xs.any fun b => decide (b = a))) := vl_in (f := V.str) (fun _ _ _ h => h) (fun _ => rfl) (fun a b => eqV_str b a) false
theorem vl_inBT : VL2 (rIn K false) rBool (rTup rBool) rBool (fun a xs => some (xs.any fun b => decide (b = a))) := vl_in (f := V.bl) (fun _ _ _ h => h) (fun _ => rfl) (fun a b => eqV_bl b a) true
theorem vl_inBL : VL2 (rIn K false) rBool (rLst rBool) rBool (fun a xs => some (xs.any fun b => decide (b = a))) := vl_in (f := V.bl) (fun _ _ _ h => h) (fun _ => rfl) (fun a b => eqV_bl b a) false
end
section
variable {S α β γ : Type} {R : Rl α} {R' : Rl β} {U : Rl γ} {σ : L2.St} {F : Hp} {A : Ow S} {ta tb tc : TE} {m : M S α} {r r' : R2} {f : α → β → Option Bool} {g : β → γ → Option Bool} {m' : M S β} {m'' : M S γ}
theorem et_chain (hr : VL2 r R R' rBool f) (hr' : VL2 r' R' U rBool g) (ha : Ev ta σ F A R m) (hb : Ev tb σ F A R' m') (hc : Ev tc σ F A U m'') :
    EvT (tTest (tChain r r' ta tb tc)) σ F A (bnd m fun a => bnd m' fun b => bnd (lft (f a b)) fun d => bif d then (bnd m'' fun c => lft (g b c)) else ret false) := et_test (ev_chain hr hr' ha hb hc)
end
end T

/-! T26: dicts whose keys are tuples in tuples. -/
namespace T
open PySem L2 PySem.Spec PyProof.Rows
/-! ### keys -/
mutual
inductive KIs (F : Hp) : NestedKey → V → Prop
  | none : KIs F .none .non
  | int (i : Int) : KIs F (.num i) (.int i)
  | bl (b : Bool) : KIs F (.num (if b = true then 1 else 0)) (.bl b)
  | str (x : Str) : KIs F (.text x) (.str x)
  | tup {p vs ks} : F p = some (.tup vs) → KAll F ks vs → KIs F (.tup ks) (.ref p)
inductive KAll (F : Hp) : List NestedKey → List V → Prop
  | nil : KAll F [] []
  | cons {k v ks vs} : KIs F k v → KAll F ks vs → KAll F (k :: ks) (v :: vs)
end
mutual
theorem KIs.mono {F F' : Hp} (s : Same F F') : ∀ {k : NestedKey} {v : V}, KIs F k v → KIs F' k v
  | _, _, .none => .none
  | _, _, .int i => .int i
  | _, _, .bl b => .bl b
  | _, _, .str x => .str x
  | _, _, .tup h t => .tup (s _ _ h) (KAll.mono s t)
theorem KAll.mono {F F' : Hp} (s : Same F F') : ∀ {ks : List NestedKey} {vs : List V}, KAll F ks vs → KAll F' ks vs
  | _, _, .nil => .nil
  | _, _, .cons h t => .cons (KIs.mono s h) (KAll.mono s t)
end
mutual
theorem KIs.is {P : Program} {w : World} {H : Hp} {h : Heap} (ok : HOk P w H h) : ∀ {k : NestedKey} {v : V} {u : Value}, KIs H k v → RelV v u → NestedIs h k u
  | _, _, _, .none, r => by cases (show _ = Value.none from r); exact .none
  | _, _, _, .int i, r => by obtain ⟨t, rfl⟩ := (show ∃ t, _ = Value.int i t from r); exact .int i t
  | _, _, _, .bl b, r => by cases (show _ = Value.bool b from r); exact .bool rfl
  | _, _, _, .str x, r => by obtain ⟨t, rfl⟩ := (show ∃ t, _ = Value.str x t from r); exact .text x t
  | _, _, _, @KIs.tup _ p vs ks e t, r => by
    cases (show _ = Value.ref p from r)
    obtain ⟨_, its, rr, o, h1, h2, n, h3⟩ := (show ObjOk P w H h p (.tup vs) from ok p _ e)
    exact .tup h1 h2 h3 (by simpa using KAll.is ok t rr)
theorem KAll.is {P : Program} {w : World} {H : Hp} {h : Heap} (ok : HOk P w H h) : ∀ {ks : List NestedKey} {vs : List V} {us : List Value}, KAll H ks vs → Vals vs us → NestedAll h ks us
  | _, _, _, .nil, .nil => .nil
  | _, _, _, .cons a t, .cons r rs => .cons (KIs.is ok a r) (KAll.is ok t rs)
end
/-- things alike that may be keys -/
structure NK {α : Type} (R : Rl α) (k : α → NestedKey) (n : Nat) : Prop where
  is : ∀ {F v x}, R.r F v x → KIs F (k x) v
  dep : ∀ x, (k x).depth ≤ n
  inj : ∀ {x y}, k x = k y → x = y
structure NKA {α : Type} (R : Ar α) (k : α → List NestedKey) (n : Nat) : Prop where
  is : ∀ {F vs x}, R.r F vs x → KAll F (k x) vs
  dep : ∀ x, NestedKey.depthAll (k x) ≤ n
  inj : ∀ {x y}, k x = k y → x = y
theorem nk_int : NK rInt NestedKey.num 0 := ⟨fun h => by cases (show _ = V.int _ from h); exact .int _, fun _ => Nat.le_refl _, fun h => by cases h; rfl⟩
def kBl (b : Bool) : NestedKey := .num (if b = true then 1 else 0)
theorem nk_bool : NK rBool kBl 0 := ⟨fun h => by cases (show _ = V.bl _ from h); exact .bl _, fun _ => Nat.le_refl _, fun {x y} h => by cases x <;> cases y <;> first | rfl | (unfold kBl at h; simp at h)⟩
theorem nk_str : NK rStr NestedKey.text 0 := ⟨fun h => by cases (show _ = V.str _ from h); exact .str _, fun _ => Nat.le_refl _, fun h => by cases h; rfl⟩
section
variable {α β : Type} {R : Rl α} {k : α → NestedKey} {n : Nat} {X : Ar β} {kX : β → List NestedKey}
theorem kall_map (h : NK R k n) {F : Hp} : ∀ {vs : List V} {xs : List α}, Paired (R.r F) vs xs → KAll F (xs.map k) vs
  | _, _, .nil => .nil
  | _, _, .cons r t => .cons (h.is r) (kall_map h t)
theorem dep_map (h : NK R k n) : ∀ xs : List α, NestedKey.depthAll (xs.map k) ≤ n
  | [] => Nat.zero_le _
  | x :: xs => Nat.max_le.mpr ⟨h.dep x, dep_map h xs⟩
theorem inj_map (h : NK R k n) : ∀ {xs ys : List α}, xs.map k = ys.map k → xs = ys
  | [], [], _ => rfl
  | x :: xs, y :: ys, e => by
    rw [List.map_cons, List.map_cons] at e
    injection e with e1 e2
    rw [h.inj e1, inj_map h e2]
  | [], _ :: _, e => nomatch e
  | _ :: _, [], e => nomatch e
def kTup (k : α → NestedKey) (xs : List α) : NestedKey := .tup (xs.map k)
theorem nk_tup (h : NK R k n) : NK (rTup R) (kTup k) (n + 1) := ⟨fun ⟨p, vs, e, hp, r⟩ => by subst e; exact .tup hp (kall_map h r), fun xs => Nat.succ_le_succ (dep_map h xs), fun e => by unfold kTup at e; injection e with e; exact inj_map h e⟩
def kOne (k : α → NestedKey) (x : α) : List NestedKey := [k x]
def kC (k : α → NestedKey) (kX : β → List NestedKey) (x : α × β) : List NestedKey := k x.1 :: kX x.2
theorem nka_one (h : NK R k n) : NKA (arOne R) (kOne k) n := ⟨fun {F vs x} r => by
  obtain ⟨v, rfl, hr⟩ := (show ∃ v, _ = [v] ∧ R.r F v x from r)
  exact .cons (h.is hr) .nil, fun x => Nat.max_le.mpr ⟨h.dep x, Nat.zero_le _⟩, fun e => by unfold kOne at e; injection e with e _; exact h.inj e⟩
theorem nka_c (h : NK R k n) (hX : NKA X kX n) : NKA (arC R X) (kC k kX) n := ⟨fun {F vs x} r => by
  obtain ⟨v, r1, rfl, hr, ht⟩ := r
  exact .cons (h.is hr) (hX.is ht), fun x => Nat.max_le.mpr ⟨h.dep _, hX.dep _⟩, fun {x y} e => by
    unfold kC at e; injection e with e1 e2
    exact Prod.ext (h.inj e1) (hX.inj e2)⟩
def kTh (kX : β → List NestedKey) (x : β) : NestedKey := .tup (kX x)
theorem nk_th (h : NKA X kX n) : NK (rTh X) (kTh kX) (n + 1) := ⟨fun {F v x} r => by
  obtain ⟨p, vs, rfl, hp, ht⟩ := r
  exact .tup hp (h.is ht), fun x => Nat.succ_le_succ (h.dep x), fun e => by unfold kTh at e; injection e with e; exact h.inj e⟩
theorem NK.up (h : NK R k n) {m : Nat} (l : n ≤ m) : NK R k m := ⟨h.is, fun x => Nat.le_trans (h.dep x) l, h.inj⟩
end
/-- keys that are tuples -/
class KeyT {α : Type} (R : Rl α) (k : α → NestedKey) : Prop where
  nk : NK R k 8
  tup : ∀ x, ∃ ks, k x = .tup ks
theorem KeyT.ref {α : Type} {R : Rl α} {k : α → NestedKey} (h : KeyT R k) {F : Hp} {v : V} {x : α} (r : R.r F v x) : ∃ b, v = .ref b ∧ KIs F (k x) (.ref b) ∧ (k x).depth ≤ 8 := by
  have q := h.nk.is r
  obtain ⟨ks, e⟩ := h.tup x
  have d := h.nk.dep x
  rw [e] at q d ⊢
  cases q with
  | tup h1 h2 => exact ⟨_, rfl, .tup h1 h2, d⟩
/-! ### the dict's object -/
abbrev Ent := NestedKey × Addr × Value
def entR (w : World) (x : Ent) : DictEntry := ⟨x.1.hash w, .ref x.2.1, x.2.2⟩
def DRaw (w : World) (d : Addr) (xs : List Ent) (h : Heap) : Prop := (d == sysModules) = false ∧ xs.length ≤ sizeLine ∧ ∃ o es ep, h.get? d = some o ∧ o.ExactDict ∧ o.data = .dict es ep ∧ es.toList = xs.map (entR w) ∧ (xs.map (·.1)).Nodup
theorem DRaw.stay {w : World} {d : Addr} {xs : List Ent} {h h' : Heap} (x : DRaw w d xs h) (k : ∀ o, h.get? d = some o → h'.get? d = some o) : DRaw w d xs h' := let ⟨a, b, o, es, ep, e, r⟩ := x; ⟨a, b, o, es, ep, k _ e, r⟩
theorem DRaw.ok {P : Program} {w : World} {H : Hp} {h : Heap} {d : Addr} {xs : List Ent} (x : DRaw w d xs h) : ObjOk P w H h d (.ext (DRaw w d xs)) := ⟨x, by obtain ⟨_, _, o, _, _, e, _⟩ := x; exact ⟨o, e⟩, fun h1 h2 a k => a.stay k⟩
def DEl (H : Hp) (w : World) (d : Addr) (xs : List Ent) : Prop := H d = some (.ext (DRaw w d xs)) ∧ ∀ q ∈ xs, KIs H q.1 (.ref q.2.1) ∧ q.1.depth ≤ 8
theorem DEl.of {X : Cx} {pins : List (Addr × Obj)} {σ : L2.St} {H : Hp} {s : Shared} {d : Addr} {xs : List Ent} (I : Inv X pins σ H s) (e : DEl H X.w d xs) : (d == sysModules) = false ∧ xs.length ≤ sizeLine ∧ s.heap.DictOfH (nestedKind X.prog X.w) d xs := by
  obtain ⟨⟨a, b, o, es, ep, h1, h2, h3, h4, h5⟩, _, _⟩ := (show ObjOk X.prog X.w H s.heap d (.ext (DRaw X.w d xs)) from I.hok d _ e.1)
  exact ⟨a, b, o, es, ep, h1, h2, h3, h4, fun q hq => ⟨KIs.is I.hok (e.2 q hq).1 rfl, (e.2 q hq).2⟩, h5⟩
theorem KIs.key {X : Cx} {pins : List (Addr × Obj)} {σ : L2.St} {H : Hp} {s : Shared} {b : Addr} {k : NestedKey} (I : Inv X pins σ H s) (h : KIs H k (.ref b)) (d : k.depth ≤ 8) : (nestedKind X.prog X.w).is s.heap k b := ⟨KIs.is I.hok h rfl, d⟩
/-- y in d -/
def rInN (w : World) (no : Bool) : R2 := fun x y H Q => ∃ b d k xs, x = .ref b ∧ y = .ref d ∧ KIs H k (.ref b) ∧ k.depth ≤ 8 ∧ DEl H w d xs ∧ Q (.bl ((atKey xs k).isSome != no)) H
/-- d[y] -/
def rIxN (w : World) : R2 := fun x y H Q => ∃ b d k xs p v, x = .ref d ∧ y = .ref b ∧ KIs H k (.ref b) ∧ k.depth ≤ 8 ∧ DEl H w d xs ∧ atKey xs k = some p ∧ RelV v p.2 ∧ Q v H
/-- d[y] = v -/
def rSetN (w : World) : V → V → V → Hp → (Hp → Prop) → Prop := fun x y v H Q => ∃ b d k xs, x = .ref d ∧ y = .ref b ∧ KIs H k (.ref b) ∧ k.depth ≤ 8 ∧ DEl H w d xs ∧ xs.length < sizeLine ∧ ∀ u, RelV v u → Q (upd H d (.ext (DRaw w d (storedH xs k b u))))
section
variable {X : Cx}
theorem op_inN (hu : X.A.units + 64 < cLine) : OpR X (compareOp .In) (rInN X.w false) := by
  intro pins s σ H x y v u Q I rx ry h
  obtain ⟨b, d, k, xs, rfl, rfl, hk, hd, hx, q⟩ := h
  cases (show v = Value.ref b from rx)
  cases (show u = Value.ref d from ry)
  obtain ⟨h1, h2, h3⟩ := hx.of I
  refine wpAny_in_heap (knd := nestedKind X.prog X.w) (by show X.A.units + 1 + 8 < cLine; omega) (hk.key I hd) h1 h3 ⟨.bl _, H, I.tok _, rfl, ?_⟩
  simpa using q
theorem op_notInN (hu : X.A.units + 64 < cLine) : OpR X (compareOp .NotIn) (rInN X.w true) := by
  intro pins s σ H x y v u Q I rx ry h
  obtain ⟨b, d, k, xs, rfl, rfl, hk, hd, hx, q⟩ := h
  cases (show v = Value.ref b from rx)
  cases (show u = Value.ref d from ry)
  obtain ⟨h1, h2, h3⟩ := hx.of I
  refine wpAny_notIn_heap (knd := nestedKind X.prog X.w) (by show X.A.units + 1 + 8 < cLine; omega) (hk.key I hd) h1 h3 ⟨.bl _, H, I.tok _, rfl, ?_⟩
  simpa using q
theorem ix_N (hu : X.A.units + 64 < cLine) : IxR X (rIxN X.w) := by
  intro value slice pins s σ H x y v u Q I rx ry h hs
  obtain ⟨b, d, k, xs, p, v0, rfl, rfl, hk, hd, hx, hp, r0, q⟩ := h
  cases (show v = Value.ref d from rx)
  cases (show u = Value.ref b from ry)
  obtain ⟨h1, h2, h3⟩ := hx.of I
  have hT : s.TypeIs (.ref d) "dict" := h3.typeIs
  unfold subscriptTail
  refine wpAny_bind ?_
  rw [getitemInPython_of_ne hT.not_modules]
  refine wpAny_bind (wpAny_specialOf hT PySem.F.slot_dict_getitem.lookup ?_)
  have fin : wpAny (model X.prog X.w) X.A (subscripted slice false (.ref d) (.ref b)) (fun r s₃ => wpAny (model X.prog X.w) X.A (letTemporaryGo value (.ref d) r >>= fun _ => pure r) (EP X pins σ Q) X.xe s₃) X.xe s := by
    rw [hs]
    refine wpAny_operating (wpAny_getItem_heap (knd := nestedKind X.prog X.w) (by show X.A.units + 1 + 8 < cLine; omega) (hk.key I hd) h3 hp ?_)
    exact wpAny_bind (wpAny_letTemporaryGo (wpAny_pure ⟨v0, H, I.tok _, r0, q⟩))
  first
    | exact wpAny_pure (wpAny_bind fin)
    | exact wpAny_bind (wpAny_pure (wpAny_bind fin))
    | exact wpAny_bind fin
theorem set_N (hu : X.A.units + 64 < cLine) : PSet X (rSetN X.w) := by
  intro pins s σ H x y v ov iv u Q I rx ry rv h
  obtain ⟨b, d, k, xs, rfl, rfl, hk, hd, hx, hl, q⟩ := h
  cases (show ov = Value.ref d from rx)
  cases (show iv = Value.ref b from ry)
  obtain ⟨h1, h2, h3⟩ := hx.of I
  refine wpAny_setItem_heap (knd := nestedKind X.prog X.w) (hsz := h2) (by show X.A.units + 1 + 8 < cLine; omega) (hk.key I hd) h3 fun h' hm hs => ?_
  refine ⟨_, ?_, q u rv⟩
  obtain ⟨o, es, ep, e1, e2, e3, e4, e5, e6⟩ := hm
  refine d_write I (by rw [hx.1]; trivial) hs ⟨o, e1⟩ (DRaw.ok ⟨h1, ?_, o, es, ep, e1, e2, e3, e4, e6⟩)
  exact Nat.le_trans (storedH_length xs k b u) hl
/-- {} -/
def tNewN (w : World) : TE := fun _ H Q => ∀ p, H p = none → Q (.ref p) (upd H p (.ext (DRaw w p [])))
theorem pe_newN {pos : Pos} : PE X (.Dict [] [] pos) (tNewN X.w) := ⟨fun pins s σ H Q I h =>
  wpAny_Dict_empty ⟨.ref s.heap.objs.size, _, I.laid (a := s.heap.objs.size) (o := .ext (DRaw X.w s.heap.objs.size [])) (t' := s.toks) (fun _ _ q => Heap.get?_push_of_some _ q) (Nat.le_refl _)
    (DRaw.ok ⟨beq_eq_false_iff_ne.mpr (Ne.symm (Nat.ne_of_lt I.big)), Nat.zero_le _, _, #[], 0, Heap.get?_push_size _ rfl, ⟨rfl, rfl, rfl⟩, rfl, rfl, List.nodup_nil⟩), rfl, h _ (I.hok.fresh (Nat.le_refl _))⟩⟩
end
/-! ### the mirror -/
section
variable {α β : Type} [DecidableEq α]
def dAt (kvs : List (α × β)) (x : α) : Option β := (kvs.find? fun p => decide (p.1 = x)).map (·.2)
def dPut (kvs : List (α × β)) (x : α) (y : β) : List (α × β) := if (dAt kvs x).isSome = true then kvs.map (fun p => if p.1 = x then (p.1, y) else p) else kvs ++ [(x, y)]
def dSet (kvs : List (α × β)) (x : α) (y : β) : Option (List (α × β)) := if kvs.length < lim then some (dPut kvs x y) else none
variable {k : α → NestedKey} {R : Rl α} {V' : Rl β} {w : World}
def dRel (k : α → NestedKey) (V' : Rl β) (F : Hp) (p : α × β) (q : Ent) : Prop := q.1 = k p.1 ∧ KIs F q.1 (.ref q.2.1) ∧ q.1.depth ≤ 8 ∧ ∃ y, V'.r F y p.2 ∧ RelV y q.2.2
theorem dRel.mono {F F' : Hp} (s : Same F F') {p : α × β} {q : Ent} (h : dRel k V' F p q) : dRel k V' F' p q := ⟨h.1, h.2.1.mono s, h.2.2.1, let ⟨y, a, b⟩ := h.2.2.2; ⟨y, V'.mono s a, b⟩⟩
theorem pd_mono {γ δ : Type} {P Q : γ → δ → Prop} (h : ∀ a b, P a b → Q a b) : ∀ {xs : List γ} {ys : List δ}, Paired P xs ys → Paired Q xs ys
  | _, _, .nil => .nil
  | _, _, .cons r t => .cons (h _ _ r) (pd_mono h t)
/-- the dict at v -/
def oDic (w : World) (k : α → NestedKey) (V' : Rl β) (v : V) : Ow (List (α × β)) where
  o := fun F kvs c => ∃ d xs, v = .ref d ∧ c = [(d, .ext (DRaw w d xs))] ∧ Paired (dRel k V' F) kvs xs
  mono := fun s ⟨d, xs, e, h, r⟩ => ⟨d, xs, e, h, pd_mono (fun _ _ q => q.mono s) r⟩
theorem dp_at (hk : ∀ {x y : α}, k x = k y → x = y) {F : Hp} {kvs : List (α × β)} {xs : List Ent} (r : Paired (dRel k V' F) kvs xs) (x : α) : match dAt kvs x, atKey xs (k x) with
    | some b, some q => ∃ y, V'.r F y b ∧ RelV y q.2
    | none, none => True
    | _, _ => False := by
  induction r with
  | nil => exact trivial
  | @cons p q ps qs h t ih =>
    obtain ⟨h1, h2, h3, y, h4, h5⟩ := h
    by_cases e : p.1 = x
    · have e' : q.1 = k x := by rw [h1, e]
      have a : dAt (p :: ps) x = some p.2 := by simp [dAt, List.find?_cons, e]
      have b : atKey (q :: qs) (k x) = some q.2 := by simp [atKey, List.find?_cons, e']
      rw [a, b]; exact ⟨y, h4, h5⟩
    · have e' : ¬ q.1 = k x := fun z => e (hk (h1.symm.trans z))
      have a : dAt (p :: ps) x = dAt ps x := by simp [dAt, List.find?_cons, e]
      have b : atKey (q :: qs) (k x) = atKey qs (k x) := by simp [atKey, List.find?_cons, e']
      rw [a, b]; exact ih
theorem dp_some (hk : ∀ {x y : α}, k x = k y → x = y) {F : Hp} {kvs : List (α × β)} {xs : List Ent} (r : Paired (dRel k V' F) kvs xs) (x : α) : (atKey xs (k x)).isSome = (dAt kvs x).isSome := by
  have h := dp_at hk r x
  revert h
  cases dAt kvs x <;> cases atKey xs (k x) <;> intro h <;> first | rfl | exact h.elim
theorem dpl_all {F : Hp} {kvs : List (α × β)} {xs : List Ent} (r : Paired (dRel k V' F) kvs xs) : ∀ q ∈ xs, KIs F q.1 (.ref q.2.1) ∧ q.1.depth ≤ 8 := by
  induction r with
  | nil => intro q hq; cases hq
  | cons h t ih =>
    intro q hq
    rcases List.mem_cons.mp hq with rfl | hq
    · exact ⟨h.2.1, h.2.2.1⟩
    · exact ih q hq
theorem dp_put (hk : ∀ {x y : α}, k x = k y → x = y) {F : Hp} {kvs : List (α × β)} {xs : List Ent} (r : Paired (dRel k V' F) kvs xs) {x : α} {b : Addr} {y : V} {z : β} {u : Value} (hb : KIs F (k x) (.ref b)) (hd : (k x).depth ≤ 8) (hv : V'.r F y z) (hu : RelV y u) :
    Paired (dRel k V' F) (dPut kvs x z) (storedH xs (k x) b u) := by
  unfold dPut storedH
  rw [dp_some hk r x]
  split
  · rename_i hs
    clear hs hb hd
    induction r with
    | nil => exact .nil
    | @cons p q ps qs h t ih =>
      rw [List.map_cons, List.map_cons]
      refine .cons ?_ ih
      obtain ⟨h1, h2, h3, y', h4, h5⟩ := h
      unfold putAt
      by_cases e : p.1 = x
      · rw [if_pos e, if_pos (by rw [h1, e])]
        exact ⟨h1, h2, h3, y, hv, hu⟩
      · rw [if_neg e, if_neg (fun z => e (hk (h1.symm.trans z)))]
        exact ⟨h1, h2, h3, y', h4, h5⟩
  · exact r.snoc ⟨rfl, hb, hd, y, hv, hu⟩
theorem dp_len {γ δ : Type} {P : γ → δ → Prop} {xs : List γ} {ys : List δ} (r : Paired P xs ys) : xs.length = ys.length := Paired.length r
variable {S Ω : Type} {A : Ow S} {g : S → List (α × β)} {p : S → List (α × β) → S} {v : V} {te ti : TE} {σ : L2.St} {F : Hp} {m : M S α} {my : M S β} {u : TS} {P : Post Ω} {j : Nat}
theorem emb_dic {F H : Hp} {s : S} {c O : Ch} (e : Emb A (oDic w k V' v) g p) (ho : A.o F s c) (W : Wd F H (c ++ O)) : ∃ d xs c2, v = .ref d ∧ Paired (dRel k V' F) (g s) xs ∧ Wd F H ((d, .ext (DRaw w d xs)) :: (c2 ++ O)) ∧
    ∀ F' kvs xs', Same F F' → Paired (dRel k V' F') kvs xs' → ∀ H', Wd F' H' ((d, .ext (DRaw w d xs')) :: (c2 ++ O)) → ∃ c', A.o F' (p s kvs) c' ∧ Wd F' H' (c' ++ O) := by
  obtain ⟨c1, c2, pm, ⟨d, xs, e1, rfl, rp⟩, kk⟩ := e.split ho
  refine ⟨d, xs, c2, e1, rp, (W.perm (pm.append_right O)), fun F' kvs xs' s' rp' H' W' => ?_⟩
  obtain ⟨c', o', pm'⟩ := kk F' kvs [(d, .ext (DRaw w d xs'))] s' ⟨d, xs', e1, rfl, rp'⟩
  exact ⟨c', o', W'.perm (pm'.append_right O).symm⟩
theorem dEl_of {F H : Hp} {d : Addr} {xs : List Ent} {kvs : List (α × β)} {O : Ch} (W : Wd F H ((d, .ext (DRaw w d xs)) :: O)) (r : Paired (dRel k V' F) kvs xs) : DEl H w d xs := ⟨W.hd, fun q hq => ⟨(dpl_all r q hq).1.mono W.sub, (dpl_all r q hq).2⟩⟩
theorem ev_inN {no : Bool} (kt : KeyT R k) (he : Ev te σ F A R m) (hv : σ[j]? = some (some v)) (e : Emb A (oDic w k V' v) g p) : Ev (tOp (rInN w no) te (tVar j)) σ F A rBool (bnd m fun x => gtL g fun d => some ((dAt d x).isSome != no)) := fun s b s' hm F1 H c O sm ho W Q q => by
  obtain ⟨x, s1, h1, hm⟩ := bnd_some hm
  obtain ⟨h2, rfl⟩ := gtL_some hm
  cases h2
  refine he s x s' h1 F1 H c O sm ho W _ fun y F2 H2 c2 sm2 o2 W2 r2 => ⟨v, hv, ?_⟩
  obtain ⟨b, rfl, hb, hd⟩ := kt.ref r2
  obtain ⟨d, xs, c4, rfl, rp, W4, kk⟩ := emb_dic e o2 W2
  refine ⟨b, d, k x, xs, rfl, rfl, hb.mono W2.sub, hd, dEl_of W4 rp, ?_⟩
  rw [dp_some kt.nk.inj rp]
  exact q _ F2 H2 c2 sm2 o2 W2 rfl
theorem ev_ixN (kt : KeyT R k) (hv : σ[j]? = some (some v)) (e : Emb A (oDic w k V' v) g p) (he : Ev te σ F A R m) : Ev (tOp (rIxN w) (tVar j) te) σ F A V' (bnd m fun x => gtL g fun d => dAt d x) := fun s b s' hm F1 H c O sm ho W Q q => ⟨v, hv, by
  obtain ⟨x, s1, h1, hm⟩ := bnd_some hm
  obtain ⟨h2, rfl⟩ := gtL_some hm
  refine he s x s' h1 F1 H c O sm ho W _ fun y F2 H2 c2 sm2 o2 W2 r2 => ?_
  obtain ⟨b', rfl, hb, hd⟩ := kt.ref r2
  obtain ⟨d, xs, c4, rfl, rp, W4, kk⟩ := emb_dic e o2 W2
  have at_ := dp_at kt.nk.inj rp x
  rw [h2] at at_
  cases ek : atKey xs (k x) with
  | none => rw [ek] at at_; exact at_.elim
  | some pr =>
    rw [ek] at at_
    obtain ⟨y, hy, hr⟩ := at_
    exact ⟨b', d, k x, xs, pr, y, rfl, rfl, hb.mono W2.sub, hd, dEl_of W4 rp, ek, hr, q _ F2 H2 c2 sm2 o2 W2 hy⟩⟩
theorem dSet_some {kvs kvs' : List (α × β)} {x : α} {y : β} (h : dSet kvs x y = some kvs') : kvs' = dPut kvs x y ∧ kvs.length < lim := by
  unfold dSet at h; split at h
  · cases h; exact ⟨rfl, by assumption⟩
  · cases h
theorem b_setN {f : S → Option Ω} (kt : KeyT R k) (hv : σ[j]? = some (some v)) (e : Emb A (oDic w k V' v) g p) (he : Ev te σ F A V' my) (hi : Ev ti σ F A R m) (kk0 : B u σ F A P f) : B (tSeq (tAsg te (gSub (tVar j) ti (rSetN w))) u) σ F A P (bnd my fun y => bnd m fun x => bnd (upL g p fun d => dSet d x y) fun _ => f) := fun s w' hm F1 H c O sm ho W D q => by
  obtain ⟨y, s1, h1, hm⟩ := bnd_some hm
  obtain ⟨x, s2, h2, hm⟩ := bnd_some hm
  obtain ⟨_, s3, h3, hm⟩ := bnd_some hm
  obtain ⟨xs', h3a, rfl⟩ := upL_some h3
  obtain ⟨rfl, hl⟩ := dSet_some h3a
  refine he s y s1 h1 F1 H c O sm ho W _ fun vy F2 H2 c2 sm2 o2 W2 r2 => ⟨v, hv, ?_⟩
  refine hi s1 x s2 h2 F2 H2 c2 O (sm.trans sm2) o2 W2 _ fun z F3 H3 c3 sm3 o3 W3 r3 => ?_
  obtain ⟨b', rfl, hb, hd⟩ := kt.ref r3
  obtain ⟨d, xs, c4, rfl, rp, W4, kk⟩ := emb_dic e o3 W3
  refine ⟨b', d, k x, xs, rfl, rfl, hb.mono W3.sub, hd, dEl_of W4 rp, by rw [← dp_len rp, PySem.sizeLine_eq]; have : lim = 1000000 := rfl; omega, fun uu ru => ?_⟩
  obtain ⟨c5, o5, W5⟩ := kk F3 _ (storedH xs (k x) b' uu) (SameR _) (dp_put kt.nk.inj rp hb hd (V'.mono sm3 r2) ru) _ W4.set
  exact kk0 _ w' hm F3 _ c5 O ((sm.trans sm2).trans sm3) o5 W5 D (P.mono (sm2.trans sm3) q)
theorem eo_newN {k : α → NestedKey} {V' : Rl β} : EvO (tNewN w) σ F A (oDic w k V') (ret ([] : List (α × β))) := fun s b s' hm F1 H c O sm ho W Q q p np => by
  obtain ⟨rfl, rfl⟩ := ret_some hm
  exact q (.ref p) _ _ c [(p, .ext (DRaw w p []))] (SameR _) ho ⟨p, [], rfl, rfl, .nil⟩ (W.newO np)
end
/-! ### the keys of this program -/
abbrev kState : State → NestedKey := kTh (kC (kTup NestedKey.num) (kC (kTup NestedKey.num) (kOne (kTup kBl))))
theorem nk_state : NK rState kState 2 := nk_th (nka_c (nk_tup nk_int) (nka_c (nk_tup nk_int) (nka_one (nk_tup nk_bool))))
theorem kt_state : KeyT rState kState := ⟨nk_state.up (by decide), fun _ => ⟨_, rfl⟩⟩
abbrev kPair : State × State → NestedKey := kTh (kC kState (kOne kState))
theorem kt_pair : KeyT (rTh (arC rState (arOne rState))) kPair := ⟨(nk_th (nka_c nk_state (nka_one nk_state))).up (by decide), fun _ => ⟨_, rfl⟩⟩
theorem kop_inN {X : Cx} {w : World} (hu : X.A.units + 64 < cLine) (e : X.w = w := by rfl) : OpR X (compareOp .In) (rInN w false) := by subst e; exact op_inN hu
theorem kop_notInN {X : Cx} {w : World} (hu : X.A.units + 64 < cLine) (e : X.w = w := by rfl) : OpR X (compareOp .NotIn) (rInN w true) := by subst e; exact op_notInN hu
theorem kix_N {X : Cx} {w : World} (hu : X.A.units + 64 < cLine) (e : X.w = w := by rfl) : IxR X (rIxN w) := by subst e; exact ix_N hu
theorem kset_N {X : Cx} {w : World} (hu : X.A.units + 64 < cLine) (e : X.w = w := by rfl) : PSet X (rSetN w) := by subst e; exact set_N hu
theorem kpe_newN {X : Cx} {w : World} {pos : Pos} (e : X.w = w := by rfl) : PE X (.Dict [] [] pos) (tNewN w) := by subst e; exact pe_newN
/-! ### a thing of one type read as one of another -/
def CvP {α β : Type} (R : Rl α) (R' : Rl β) (f : α → Option β) : Prop := ∀ F v x y, R.r F v x → f x = some y → R'.r F v y
section
variable {α β γ S : Type} {R : Rl α} {R2 : Rl γ} {R' : Rl β} {A : Ow S} {te : TE} {σ : L2.St} {F : Hp} {m : M S α}
theorem ev_cvP {f : α → Option β} (h : CvP R R' f) (he : Ev te σ F A R m) : Ev te σ F A R' (bnd m fun x => lft (f x)) := fun s b s' hm F1 H c O sm ho W Q q => by
  obtain ⟨x, s1, h1, hm⟩ := bnd_some hm
  obtain ⟨h2, rfl⟩ := lft_some hm
  exact he s x _ h1 F1 H c O sm ho W _ fun v F2 H2 c2 s2 o2 W2 r2 => q v F2 H2 c2 s2 o2 W2 (h _ _ _ _ r2 h2)
theorem cvp_sum {f : α → Option β} {g : γ → Option β} (h1 : CvP R R' f) (h2 : CvP R2 R' g) : CvP (rSum R R2) R' (Sum.elim f g) := fun F v x y r e => by
  cases x with
  | inl a => exact h1 F v a y r e
  | inr a => exact h2 F v a y r e
theorem cvp_opt {f : α → Option β} (h : CvP R R' f) : CvP (rOpt R) R' (fun o => o.bind f) := fun F v x y r e => by
  cases x with
  | none => cases e
  | some a => exact h F v a y r e
theorem cvp_th2 : CvP (rTh (arC R (arOne R))) (rTup (rSum R R2)) (fun x => some [.inl x.1, .inl x.2]) := fun F v x y r e => by
  cases e
  obtain ⟨p, vs, rfl, hp, v1, _, rfl, r1, v2, rfl, r2⟩ := r
  exact ⟨p, _, rfl, hp, .cons r1 (.cons r2 .nil)⟩
theorem cvp_th1 : CvP (rTh (arOne R2)) (rTup (rSum R R2)) (fun x => some [.inr x]) := fun F v x y r e => by
  cases e
  obtain ⟨p, vs, rfl, hp, v1, rfl, r1⟩ := r
  exact ⟨p, _, rfl, hp, .cons r1 .nil⟩
theorem cvp_never : CvP R R' (fun _ => none) := fun _ _ _ _ _ e => nomatch e
end
section
variable {α β : Type} {R : Rl α} {R' : Rl β}
theorem vl_isNoneU [hn : NotNon R] [hn' : NotNon R'] : VL2 (fun x y H Q => y = .non ∧ Q (.bl (decide (x = .non))) H) (rSum (rOpt R) R') rNone rBool (fun a _ => some (Sum.elim Option.isNone (fun _ => false) a)) := fun F H O x y a b c W hx hy hf Q q => by
  cases hf
  refine ⟨hy, q _ F H (SameR _) W ?_⟩
  match a, hx with
  | .inl none, hx => rw [show x = .non from hx]; rfl
  | .inl (some z), hx => show V.bl _ = V.bl _; rw [decide_eq_false (hn.nn F x z hx)]; rfl
  | .inr z, hx => show V.bl _ = V.bl _; rw [decide_eq_false (hn'.nn F x z hx)]; rfl
theorem vl_notNoneU [hn : NotNon R] [hn' : NotNon R'] : VL2 (fun x y H Q => y = .non ∧ Q (.bl (!decide (x = .non))) H) (rSum (rOpt R) R') rNone rBool (fun a _ => some (!Sum.elim Option.isNone (fun _ => false) a)) := fun F H O x y a b c W hx hy hf Q q => by
  cases hf
  refine ⟨hy, q _ F H (SameR _) W ?_⟩
  match a, hx with
  | .inl none, hx => rw [show x = .non from hx]; rfl
  | .inl (some z), hx => show V.bl _ = V.bl _; rw [decide_eq_false (hn.nn F x z hx)]; rfl
  | .inr z, hx => show V.bl _ = V.bl _; rw [decide_eq_false (hn'.nn F x z hx)]; rfl
end
section
variable {α β S : Type} {K : PySem.W.Frag} {W : WX} {R : Rl α} {R' : Rl β} {A : Ow S} {te : TE} {σ : L2.St} {F : Hp}
/-- a raising thing of one type read as one of another -/
theorem evx_cvP {mx : M S (α ⊕ Str)} {f : α → Option β} (h : CvP R R' f) (he : EvX K W te σ F A R mx) : EvX K W te σ F A R' (bnd mx fun w => lft (Sum.elim (fun x => (f x).map Sum.inl) (fun n => some (Sum.inr n)) w)) := fun s b s' hm F1 H c O sm ho W1 Q q => by
  obtain ⟨x, s1, h1, hm⟩ := bnd_some hm
  obtain ⟨h2, rfl⟩ := lft_some hm
  refine he s x _ h1 F1 H c O sm ho W1 _ ?_
  cases x with
  | inl a =>
    replace h2 : (f a).map Sum.inl = some b := h2
    cases e : f a with
    | none => rw [e] at h2; cases h2
    | some y =>
      rw [e] at h2; cases h2
      exact fun v F2 H2 c2 s2 o2 W2 r2 => q v F2 H2 c2 s2 o2 W2 (h _ _ _ _ r2 e)
  | inr n => cases h2; exact q
/-- a slice of a raising thing -/
theorem evx_slH {X : Ar α} {Y : Ar β} {f : α → β} {lo hi : Option Int} {tl th : TO} {mx : M S (α ⊕ Str)} (hc : Cut X lo hi Y f) (h : EvX K W te σ F A (rTh X) mx) (hl : ∀ {F}, EvP tl σ F A (ret lo)) (hh : ∀ {F}, EvP th σ F A (ret hi)) : EvX K W (tSl (rSlA K) te tl th) σ F A (rTh Y) (bnd mx fun w => ret (Sum.map f id w)) := fun s b s' hm F1 H c O sm ho W1 Q q => by
  obtain ⟨x, s1, h1, hm⟩ := bnd_some hm
  obtain ⟨rfl, rfl⟩ := ret_some hm
  refine h s x _ h1 F1 H c O sm ho W1 _ ?_
  cases x with
  | inr n => exact q
  | inl x =>
    exact fun v F2 H2 c2 s2 o2 W2 r2 => ev_slH (te := fun _ H Q => Q v H) hc (m := fun s => some (x, s)) (fun s b s' e F1 H c O sm ho W Q q => by
      cases e; exact q v _ _ _ (SameR _) ho W ((rTh X).mono sm r2)) hl hh _ _ _ rfl F2 H2 c2 O (SameR _) o2 W2 Q fun v' F' H' c' s' o' W' r' => q v' F' H' c' (s2.trans s') o' W' r'
end
theorem cvp_same2 {α : Type} {R : Rl α} : CvP (rTh (arC R (arOne R))) (rTup R) (fun x => some [x.1, x.2]) := fun F v x y r e => by
  cases e
  obtain ⟨p, vs, rfl, hp, v1, _, rfl, r1, v2, rfl, r2⟩ := r
  exact ⟨p, _, rfl, hp, .cons r1 (.cons r2 .nil)⟩
end T

/-! T27: pools of lists, frozen. -/
namespace T
open PySem L2
section
variable {α S S' Ω : Type} {R : Rl α} {A : Ow S} {A' : Ow S'} {σ : L2.St} {F : Hp} {P : Post Ω} {u : TS} {ps : List V}
theorem frz_pool {H : Hp} {O : Ch} : ∀ {ps : List V} {F : Hp} {xs : List (List α)} {c : Ch}, poolO (oLst R) ps F xs c → Wd F H (c ++ O) → ∃ F', Same F F' ∧ Wd F' H O ∧ ∀ (k : Nat) v, ps[k]? = some v → ∃ x, xs[k]? = some x ∧ (rLst R).r F' v x
  | [], F, xs, c, ⟨_, e⟩, W => ⟨F, SameR _, by subst e; exact W, fun k v h => by simp at h⟩
  | w :: vs, F, xs, c, ⟨x, xr, c1, c2, e1, e2, ⟨l, ws, ew, ec, rp⟩, r⟩, W => by
    subst e1 e2 ec
    have W2 : Wd F H ((l, .lst ws) :: (c2 ++ O)) := W
    have s2 := Wd.frzS W2
    obtain ⟨F', s3, W3, k3⟩ := frz_pool (poolO_mono s2 r) (Wd.frz W2)
    refine ⟨F', s2.trans s3, W3, fun k v h => ?_⟩
    match k, h with
    | 0, h =>
      obtain rfl : w = v := by simpa using h
      exact ⟨x, rfl, (rLst R).mono s3 ⟨l, ws, ew, upd_same, paired_mono (fun _ _ => R.mono s2) rp⟩⟩
    | k + 1, h => exact k3 k v (by simpa using h)
def PGet (R : Rl α) (ps : List V) (xs : List (List α)) (F : Hp) : Prop := ∀ v (k : Int), (rRef ps).r F v k → (rLst R).r F v (xs.getD k.toNat [])
theorem b_fzPool {g : S → List (List α)} {π : S → S'} {f : List (List α) → S' → Option Ω} (h : Rmv A A' (oPool (oLst R) ps) g π) (k : ∀ xs F', Same F F' → PGet R ps xs F' → B u σ F' A' P (f xs)) : B u σ F A P (fzL g π f) := fun s w hm F1 H c O sm ho W D q => by
  obtain ⟨c1, c2, pm, o1, o2⟩ := h.sp ho
  have W2 : Wd F1 H (c1 ++ (c2 ++ O)) := by
    have := W.perm (pm.append_right O)
    rw [List.append_assoc] at this; exact this
  obtain ⟨F', s2, W3, kk⟩ := frz_pool o1 W2
  refine k (g s) F' (sm.trans s2) (fun v n hr => ?_) (π s) w hm F' H c2 O (SameR _) (A'.mono s2 o2) W3 D (P.mono s2 q)
  obtain ⟨x, hx, rx⟩ := kk _ v hr.2
  rw [List.getD_eq_getElem?_getD, hx]
  exact rx
def pget {α : Type} (xs : List (List α)) (ks : List Int) : List (List α) := ks.map fun k => xs.getD k.toNat []
theorem paired_getP {Q : V → Int → Prop} {Q' : V → List α → Prop} {f : Int → List α} (h : ∀ v k, Q v k → Q' v (f k)) : ∀ {vs : List V} {ks : List Int}, Paired Q vs ks → Paired Q' vs (ks.map f)
  | _, _, .nil => .nil
  | _, _, .cons r t => .cons (h _ _ r) (paired_getP h t)
theorem lref_up {xs : List (List α)} {v : V} {ks : List Int} (h : PGet R ps xs F) (r : (rLst (rRef ps)).r F v ks) : (rLst (rLst R)).r F v (pget xs ks) := by
  obtain ⟨p, vs, e, hp, rp⟩ := r
  exact ⟨p, vs, e, hp, paired_getP h rp⟩
end
/-! try .. except C: a suite without the exception's name -/
def tryO {S Z : Type} (cat : List Str) (mb : S → Option ((Z × S) ⊕ (Str × S))) (mh : S → Option (Z × S)) : M S Z := fun s => (mb s).bind fun w => match w with
  | .inl p => some p
  | .inr q => if q.1 ∈ cat then mh q.2 else none
section
variable {S Z Ω : Type} {A : Ow S} {σ : L2.St} {F : Hp} {P : Post Ω} {u : TS} {K : PySem.W.Frag}
theorem b_tryO {tb : WX → TS} {th : TS} {C : Str} {cat : List Str} {Sl : Z → Hp → L2.St → Prop} {Sx : Hp → L2.St → Prop} {Wout : WX} {mb : S → Option ((Z × S) ⊕ (Str × S))} {mh : S → Option (Z × S)} {f : Z → S → Option Ω} (hcat : ∀ n ∈ cat, PySem.W.exmOne K (.ref (He.ga K n)) (.ref (He.ga K C)) = some true)
    (hb : ∀ W, B (tb W) σ F A (pTry K W A Sl Sx) mb) (hh : ∀ F' σ', Same F F' → Sx F' σ' → B th σ' F' A (pNx A Sl) mh)
    (k : ∀ z F' σ', Same F F' → Sl z F' σ' → B u σ' F' A P (f z)) : B (Evl.tCut (fun D σ H => tb (L2.wOnly K (.ref (He.ga K C)) (fun _ _ _ => th) Wout D) D σ H) u) σ F A P (bnd (tryO cat mb mh) f) := fun s r hm F1 H c O sm ho W1 D q => by
  obtain ⟨z, s2, h1, hm⟩ := bnd_some hm
  unfold tryO at h1
  cases e0 : mb s with
  | none => rw [e0] at h1; cases h1
  | some w =>
    rw [e0] at h1
    refine ⟨fun σ' H' => ∃ F' c', Same F1 F' ∧ A.o F' s2 c' ∧ Wd F' H' (c' ++ O) ∧ Sl z F' σ', ?_, fun σ' H' ⟨F', c', s', o', W', sl⟩ => k z F' σ' (sm.trans s') sl s2 r hm F' H' c' O (SameR _) o' W' D (P.mono s' q)⟩
    refine hb _ s w e0 F1 H c O sm ho W1 _ ?_
    cases w with
    | inl p =>
      cases h1
      exact fun F3 H3 c3 σ3 s3 o3 W3 sl => ⟨F3, c3, s3, o3, W3, sl⟩
    | inr p =>
      obtain ⟨n, s3⟩ := p
      have hn : n ∈ cat := by
        by_cases hn : n ∈ cat
        · exact hn
        · simp [hn] at h1
      simp [hn] at h1
      intro F3 H3 c3 σ3 sm3 o3 W3 sx
      refine ⟨true, hcat n hn, fun _ a na => ?_, fun q => nomatch q⟩
      exact hh F3 σ3 (sm.trans sm3) sx s3 (z, s2) h1 F3 H3 c3 O (SameR _) o3 W3 _ (fun F4 H4 c4 σ4 s4 o4 W4 sl => ⟨F4, c4, sm3.trans s4, o4, W4, sl⟩)
end
/-! list(range(n)) -/
def rngS (n : Int) : Option (List Int) := if n ≤ 1000000 ∧ -1000000 ≤ n then some (rngL 0 n.toNat) else none
theorem paired_rgL {F : Hp} : ∀ (n : Nat) (lo : Int), Paired (rInt.r F) ((List.range n).map fun (i : Nat) => V.int (lo + (i : Nat))) (rngL lo n)
  | 0, _ => .nil
  | n + 1, lo => by
    rw [List.range_succ_eq_map, List.map_cons, List.map_map]
    show Paired _ _ (lo :: rngL (lo + 1) n)
    refine .cons (show V.int _ = V.int _ by simp) ?_
    have e : ((fun (i : Nat) => V.int (lo + (i : Nat))) ∘ Nat.succ) = fun (i : Nat) => V.int (lo + 1 + (i : Nat)) := by
      funext i
      show V.int _ = V.int _
      congr 1
      rw [show ((Nat.succ i : Nat) : Int) = (i : Int) + 1 from rfl]
      omega
    rw [e]
    exact paired_rgL n (lo + 1)
section
variable {S : Type} {A : Ow S} {te : TE} {σ : L2.St} {F : Hp} {m : M S Int}
theorem eo_listRg (he : Ev te σ F A rInt m) : EvO (tLstRg (tRg1 te)) σ F A (oLst rInt) (bnd m fun n => lft (rngS n)) := fun s b s' hm F1 H c O sm ho W Q q => by
  obtain ⟨n, s1, h1, hm⟩ := bnd_some hm
  obtain ⟨h2, rfl⟩ := lft_some hm
  unfold rngS at h2
  split at h2
  · rename_i hn
    cases h2
    refine he s n _ h1 F1 H c O sm ho W _ fun v F2 H2 c2 s2 o2 W2 r2 => ⟨n, r2, ⟨by omega, by omega, by omega, by omega, by omega⟩, fun l nl => ?_⟩
    refine q (.ref l) F2 _ c2 [(l, .lst (rgV 0 n))] s2 o2 ⟨l, _, rfl, rfl, ?_⟩ (W2.newO nl)
    unfold rgV
    rw [Int.sub_zero]
    exact paired_rgL _ 0
  · cases h2
end
section
variable {K : PySem.W.Frag}
def vO (o : Option Int) : V := match o with
  | none => .non
  | some i => .int i
theorem rO_v (F : Hp) (v : V) (x : Option Int) (h : (rOpt rInt).r F v x) : v = vO x := by
  cases x with
  | none => exact h
  | some i => exact h
theorem vO_flat (x : Option Int) : flatV (vO x) = true := by cases x <;> rfl
theorem vO_eq (a b : Option Int) : eqV (vO b) (vO a) = decide (b = a) := by
  cases a <;> cases b
  · rfl
  · rfl
  · rfl
  · rename_i i j; exact (eqV_int i j).trans (by simp)
theorem vl_inOL : VL2 (rIn K false) (rOpt rInt) (rLst (rOpt rInt)) rBool (fun a xs => some (xs.any fun b => decide (b = a))) := vl_in (f := vO) rO_v vO_flat vO_eq false
theorem vl_niOL : VL2 (rIn K true) (rOpt rInt) (rLst (rOpt rInt)) rBool (fun a xs => some (!xs.any fun b => decide (b = a))) := vl_in (f := vO) rO_v vO_flat vO_eq false
theorem vl_inIOL : VL2 (rIn K false) rInt (rLst (rOpt rInt)) rBool (fun a xs => some (xs.any fun b => decide (b = some a))) := fun F H O x y a b c W hx hy hf Q q => vl_inOL F H O x y (some a) b c W hx hy hf Q q
theorem vl_niIOL : VL2 (rIn K true) rInt (rLst (rOpt rInt)) rBool (fun a xs => some (!xs.any fun b => decide (b = some a))) := fun F H O x y a b c W hx hy hf Q q => vl_niOL F H O x y (some a) b c W hx hy hf Q q
end
theorem cvp_lopt {α : Type} {R : Rl α} : CvP (rLst R) (rLst (rOpt R)) (fun xs => some (xs.map some)) := fun F v xs y r e => by
  cases e
  obtain ⟨p, vs, rfl, hp, rp⟩ := r
  exact ⟨p, vs, rfl, hp, paired_map2 (Q' := (rOpt R).r F) (f := some) (fun _ _ r => r) rp⟩
theorem isi_NoneType {K : PySem.W.Frag} {n : String} {bb : Bool} (h : kitB "NoneType" n = some bb := by decide +kernel) : ∀ F H v x, Same F H → rNone.r F v x → ∃ t, TyX K H v (.type t) ∧ PySem.W.kitOne K (.type t) (.type n) = some bb := fun F H v x s r => ⟨"NoneType", by rw [show v = .non from r]; exact .base .non, h⟩
/-! isinstance of one of two -/
def IsiF {α : Type} (K : PySem.W.Frag) (n : String) (R : Rl α) (f : α → Bool) : Prop := ∀ F H v x, Same F H → R.r F v x → ∃ t, TyX K H v (.type t) ∧ PySem.W.kitOne K (.type t) (.type n) = some (f x)
section
variable {α β : Type} {R : Rl α} {R' : Rl β} {K : PySem.W.Frag} {n : String}
theorem vl_isiF {f : α → Bool} (ht : IsiF K n R f) : VLc (rIsi K) (arC R (arOne (rV (.ty n)))) rBool (fun x => some (f x.1)) := fun F H O xs a c W ⟨v, r, e, rv, v2, e2, ev2⟩ hf Q q => by
  cases hf
  obtain ⟨t, ty, kk⟩ := ht F H v a.1 W.sub rv
  exact ⟨v, .ty n, .type t, .type n, f a.1, by rw [e, e2, show v2 = _ from ev2], .ty n, ty, kk, q _ F H (SameR _) W rfl⟩
theorem isi_sumF {f : α → Bool} {g : β → Bool} (h1 : IsiF K n R f) (h2 : IsiF K n R' g) : IsiF K n (rSum R R') (Sum.elim f g) := fun F H v x s r => by
  cases x with
  | inl a => exact h1 F H v a s r
  | inr b => exact h2 F H v b s r
theorem isi_optF {b : Bool} {f : α → Bool} (h0 : IsiF K n rNone (fun _ => b)) (h1 : IsiF K n R f) : IsiF K n (rOpt R) (fun o => o.elim b f) := fun F H v x s r => by
  cases x with
  | none => exact h0 F H v () s r
  | some a => exact h1 F H v a s r
end
/-! is, is not of truth values -/
theorem vl_isB : VL2 L2.rIsB rBool rBool rBool (fun a b => some (decide (a = b))) := fun F H O x y a b c W hx hy hf Q q => by
  cases hf; exact ⟨a, b, hx, hy, q _ F H (SameR _) W rfl⟩
theorem vl_notB : VL2 L2.rNotB rBool rBool rBool (fun a b => some (!decide (a = b))) := fun F H O x y a b c W hx hy hf Q q => by
  cases hf; exact ⟨a, b, hx, hy, q _ F H (SameR _) W rfl⟩
/-! try .. except C: return .. -/
def tryR {S Z Ω ρ : Type} (cat : List Str) (emb : ρ → Ω) (mb : S → Option ((Z × S) ⊕ (Str × S))) (mh : S → Option ρ) (f : Z → S → Option Ω) : S → Option Ω := fun s => (mb s).bind fun w => match w with
  | .inl p => f p.1 p.2
  | .inr q => if q.1 ∈ cat then (mh q.2).map emb else none
section
variable {S Z Ω ρ : Type} {A : Ow S} {σ : L2.St} {F : Hp} {P : Post Ω} {P' : Post ρ} {u : TS} {K : PySem.W.Frag}
theorem b_tryR {tb : WX → TS} {th : TS} {C : Str} {cat : List Str} {Sl : Z → Hp → L2.St → Prop} {Sx : Hp → L2.St → Prop} {Wout : WX} {mb : S → Option ((Z × S) ⊕ (Str × S))} {mh : S → Option ρ} {f : Z → S → Option Ω} {emb : ρ → Ω} (hP : ∀ w F O (D : Ends) mid, P.p (emb w) F O D → P'.p w F O { D with nx := mid }) (hcat : ∀ n ∈ cat, PySem.W.exmOne K (.ref (He.ga K n)) (.ref (He.ga K C)) = some true)
    (hb : ∀ W, B (tb W) σ F A (pTry K W A Sl Sx) mb) (hh : ∀ F' σ', Same F F' → Sx F' σ' → B th σ' F' A P' mh)
    (k : ∀ z F' σ', Same F F' → Sl z F' σ' → B u σ' F' A P (f z)) : B (Evl.tCut (fun D σ H => tb (L2.wOnly K (.ref (He.ga K C)) (fun _ _ _ => th) Wout D) D σ H) u) σ F A P (tryR cat emb mb mh f) := fun s r hm F1 H c O sm ho W1 D q => by
  unfold tryR at hm
  cases e0 : mb s with
  | none => rw [e0] at hm; cases hm
  | some w =>
    rw [e0] at hm
    cases w with
    | inl p =>
      refine ⟨fun σ' H' => ∃ F' c', Same F1 F' ∧ A.o F' p.2 c' ∧ Wd F' H' (c' ++ O) ∧ Sl p.1 F' σ', ?_, fun σ' H' ⟨F', c', s', o', W', sl⟩ => k p.1 F' σ' (sm.trans s') sl p.2 r hm F' H' c' O (SameR _) o' W' D (P.mono s' q)⟩
      exact hb _ s (.inl p) e0 F1 H c O sm ho W1 _ fun F3 H3 c3 σ3 s3 o3 W3 sl => ⟨F3, c3, s3, o3, W3, sl⟩
    | inr p =>
      obtain ⟨n, s3⟩ := p
      have hn : n ∈ cat := by
        by_cases hn : n ∈ cat
        · exact hn
        · simp [hn] at hm
      simp [hn] at hm
      obtain ⟨r', hr', rfl⟩ := hm
      refine ⟨fun _ _ => False, ?_, fun _ _ h => h.elim⟩
      refine hb _ s (.inr (n, s3)) e0 F1 H c O sm ho W1 _ ?_
      intro F3 H3 c3 σ3 sm3 o3 W3 sx
      refine ⟨true, hcat n hn, fun _ a na => ?_, fun q => nomatch q⟩
      exact hh F3 σ3 (sm.trans sm3) sx s3 r' hr' F3 H3 c3 O (SameR _) o3 W3 _ (P'.mono sm3 (hP _ _ _ _ _ q))
theorem hp_rt {β S0 : Type} {Y : Ow S0} {R : Rl β} : ∀ w F O (D : Ends) mid, (pRt Y R).p w F O D → (pRt Y R).p w F O { D with nx := mid } := fun _ _ _ _ _ h => h
theorem hp_fl {β S0 S1 : Type} {X : Ow S1} {Sl : Z → Hp → L2.St → Prop} {Y : Ow S0} {R : Rl β} : ∀ (w : β × S0) F O (D : Ends) mid, (pFl X Sl Y R).p (.rt w) F O D → (pRt Y R).p w F O { D with nx := mid } := fun _ _ _ _ _ h => h
end
end T

/-! T28: sets of whole numbers: set(xs) of a list, sorted(set). -/
namespace T
open PySem PySem.Spec PyProof.Rows L2
/-- an empty set, just made -/
abbrev set0 (w : World) : Obj := { cls := .type "set", dict := none, data := .set #[] 0 (.fresh 0 0 (!w.params.followText "set-order")) }
abbrev set0H (w : World) (h : Heap) : Heap := h.push (set0 w)
section
variable {P : Program} {w : World} {A : Around} {E : Value → Shared → Prop} {s : Shared}
set_option maxHeartbeats 3200000 in
theorem set_of_list {l : Addr} {us : Array Value} (ks : List Int) {Q : Value → Shared → Prop} (calm : A.handled = none) (hl : s.heap.IsList l us) (hu : IntsAre us.toList ks) (few : ks.length + 1 < scanBound)
    (k : ∀ (h' : Heap) (tk c : Nat), SetR w h' s.heap.objs.size (fun j => decide (j ∈ ks)) c → c ≤ ks.length → (∀ b o, s.heap.get? b = some o → h'.get? b = some o) → Q (.ref s.heap.objs.size) { s with heap := h', toks := tk }) :
    wpAny (model P w) A (call (.type "set") [.ref l]) Q E s := by
  have nU : us.size = ks.length := by simpa using IntsAre.length hu
  obtain ⟨cM, tM, eM⟩ := F.called_set.mro
  have ⟨m1, m2, m3, m4⟩ := (⟨F.called_set.made, F.called_set.sub, F.called_set.notType, F.called_set.canCreate⟩ : _ ∧ _ ∧ _ ∧ _)
  have m5 := F.typeCall_set_1 (.ref l)
  refine wpAny_call (codeAny_of_tree (show wpAny _ _ (callAny (.type "set") _) _ _ _ from ?_))
  refine wpAny_pure ⟨Code.quiet_builtin _ (by decide +kernel), codeAny_builtin F.entry_type_call ?_⟩
  rw [Around.under_plain (weight_type_call_type "set" [.ref l] []) rfl]
  repeat (any_goals (first | assumption | wp_step))
  let s0 : Shared := { s with heap := set0H w s.heap }
  refine codeAny_mono (code_set_led1 (.ref l) (E := E) (Q₁ := fun v s1 => v = .ref s.heap.objs.size ∧ s1 = { s with heap := set0H w s.heap }) ⟨rfl, rfl⟩) fun r s1 hr => ?_
  rcases r with e | fl
  · exact hr
  · cases fl with
    | ret v =>
      obtain ⟨rfl, rfl⟩ := hr
      have at0 : (set0H w s.heap).get? s.heap.objs.size = some (set0 w) := Heap.get?_push_size _ rfl
      have ty0 : Shared.TypeIs { s with heap := set0H w s.heap } (.ref s.heap.objs.size) "set" := ⟨_, at0, rfl⟩
      have i1 := F.called_set.init.lookup
      have i2 := F.called_set.init.bind (.ref s.heap.objs.size)
      repeat (any_goals (first | assumption | wp_step))
      refine codeAny_mono (codeAny_call_builtin (R := wants (fun r s2 => r = .none ∧ ∃ h' tk c, s2 = { s with heap := h', toks := tk } ∧ SetR w h' s.heap.objs.size (fun j => decide (j ∈ ks)) c ∧ c ≤ ks.length ∧ ∀ b o, s.heap.get? b = some o → h'.get? b = some o) E)
        F.called_set.init.plain F.entry_set_init (check_set_init_1 ty0 ?_)) fun r2 s2 hr2 => ?_
      · obtain ⟨⟨oc, od, oa, os⟩, hol, hc, nl, hd⟩ := hl
        simp only at hc hd
        subst hc hd
        have lt0 : @LT.lt Nat _ l s.heap.objs.size := Heap.lt_size hol
        have atL : (set0H w s.heap).get? l = some { cls := .type "list", dict := od, data := .seq us nl, slots := os } := Heap.get?_push_of_some _ hol
        have isL : (set0H w s.heap).IsList l us := ⟨_, atL, rfl, nl, rfl⟩
        have n1 := F.sub_list_set
        have n2 := F.sub_list_frozenset
        have n3 : (Value.type "list" == Value.type "dict") = false := by decide
        have sz : (set0H w s.heap).objs.size = s.heap.objs.size + 1 := Heap.size_push ..
        have calm3 : A.in1.in1.in1.handled = none := by simp [calm]
        unfold Builtin.«set.__init__» noKeywords Builtin.Frozenset.updateFrom
        generalize hPI : pyIter = PI
        wp_walk
        subst hPI
        refine wpAny_pyIter_list isL (wpAny_bind (wpAny_runValue ?_))
        have vals : ∀ (i : Nat) (v : Value), us[i]? = some v → ∃ z t, ks[i]? = some z ∧ v = .int z t := fun i v hv => by
          have hi : i < ks.length := nU ▸ (Array.getElem?_eq_some_iff.mp hv).1
          obtain ⟨t, e⟩ := PyProof.Rows.IntsAre.int_at hu i v (by rw [Array.getElem?_toList]; exact hv)
          exact ⟨ks[i], t, List.getElem?_eq_getElem hi, by rw [e, List.getD_eq_getElem?_getD, List.getElem?_eq_getElem hi]; rfl⟩
        have ne1 : l ≠ (set0H w s.heap).objs.size := fun e => by
          have e : @Eq Nat l (s.heap.objs.size + 1) := e.trans sz
          omega
        have out1 : s.heap.objs.size ∉ [(set0H w s.heap).objs.size, l] := by
          intro hm
          rcases List.mem_cons.mp hm with e | e
          · have e : @Eq Nat s.heap.objs.size (s.heap.objs.size + 1) := e.trans sz
            omega
          · have : @Eq Nat s.heap.objs.size l := List.mem_singleton.mp e
            omega
        refine set_update_ints ((Walks.list calm3 _ l ne1 us).toS) s.heap.objs.size out1 ks nU few vals (us.size - 0) 0 _ (by omega) (Nat.zero_le _) ⟨⟨_, Heap.get?_push_size _ rfl, rfl, rfl⟩, isL.push _⟩
          ⟨0, Nat.le_refl 0, setR_new_at (Heap.get?_push_of_some _ at0)⟩ ?_
        rintro ⟨h', g2, d', tk', os'⟩ c mv hc' hS'
        obtain rfl : g2 = s.gens := mv.gens
        obtain rfl : d' = s.drawn := mv.drawn
        obtain rfl : os' = s.os := mv.os
        refine (wpAny_pure ?_ : wpAny _ _ _ _ _ _)
        show wpAny _ _ (PySem.ret Value.none) _ _ _
        refine wpAny_pure ⟨rfl, h', tk', c, rfl, hS', nU ▸ hc', fun b o e => ?_⟩
        have ltb : @LT.lt Nat _ b s.heap.objs.size := Heap.lt_size e
        refine mv.heap b o (fun hm => ?_) (Heap.get?_push_of_some _ (Heap.get?_push_of_some _ e))
        rcases List.mem_cons.mp hm with z | z
        · have z : @Eq Nat b s.heap.objs.size := z
          omega
        · have z := List.mem_singleton.mp z
          have sz' : @Eq Nat (s.heap.objs.size + 1) b := sz.symm.trans z.symm
          omega
      · rcases r2 with e | f2
        · exact hr2
        · cases f2 with
          | ret r =>
            obtain ⟨rfl, h', tk, c, rfl, hS', hc', hk'⟩ := hr2
            repeat (any_goals (first | assumption | wp_step))
            exact k _ _ _ hS' hc' hk'
          | _ => exact hr2.elim
    | _ => exact hr.elim
end
end T

/-! T29: set(xs) and sorted(set) over the layer. -/
namespace T
open PySem PySem.Spec PyProof.Rows L2
section
variable {P : Program} {w : World} {A : Around} {E : Value → Shared → Prop} {s : Shared}
/-- the members of a set of whole numbers, sorted -/
theorem sorted_of_set {a : Addr} {S : Int → Bool} {n : Nat} {Q : Value → Shared → Prop} (R : SetR w s.heap a S n) (calm : A.handled = none)
    (k : ∀ s' p (out : Array Value) (c : Nat) (zs : List Int), (∀ b o, s.heap.get? b = some o → s'.heap.get? b = some o) → s'.gens = s.gens → s'.os = s.os → s.heap.objs.size ≤ p →
      s'.heap.get? p = some (seqObj "list" out c) → IntsAre out.toList zs → zs.Pairwise (· < ·) → (∀ z, z ∈ zs ↔ S z = true) → zs.length = n → Q (.ref p) s') :
    wpAny (model P w) A (call (.builtin "sorted") [.ref a]) Q E s := by
  obtain ⟨o, es, ep, t, at_, ex, da, good, nd, mem, few, fit, num, ris, led⟩ := R
  refine (Calls.call_function_entry kind_sorted plain_sorted entry_sorted (args_sorted1 _) (?_ : wpAny _ _ _ _ _ _))
  unfold Builtin.«sorted»
  refine (wpAny_bind (m := checkCount "sorted" 1 1 _) (wpAny_pure (wpAny_bind (collect_set (A := A.in1) calm ⟨o, at_, ex.1, da⟩ fit few ris led fun s1 us keep grow g1 o1 pm => ?_))))
  have nU : us.length = n := (pm.length_eq.trans (by rw [List.length_map, Array.length_toList])).trans num
  have small : us.length ≤ sizeLine := by rw [nU, sizeLine_eq, ← num]; unfold scanBound at few; omega
  have hI : IntsAre us (us.map SrtO.iv) := SrtO.ints_iv fun v hv => by
    obtain ⟨e, he, q⟩ := List.mem_map.mp (pm.mem_iff.mp hv)
    obtain ⟨z, tz, e1, _⟩ := good e he
    exact ⟨z, tz, q ▸ e1⟩
  have pk : (us.map SrtO.iv).Perm (es.toList.map keyOf) := by
    refine (pm.map SrtO.iv).trans (List.Perm.of_eq ?_)
    rw [List.map_map]
    refine List.map_congr_left fun e he => ?_
    obtain ⟨h, v⟩ := e
    cases v <;> rfl
  refine wpAny_bind (wpAny_newList ?_ small)
  have at1 : (s1.heap.push (seqObj "list" us.toArray 0)).get? s1.heap.objs.size = some (seqObj "list" us.toArray 0) := Heap.get?_push_size _ rfl
  have srt1 := SrtO.list_sort_ord (prog := P) (w := w) (A := A.in1.in1) (E := E) (s := { s1 with heap := s1.heap.push (seqObj "list" us.toArray 0) }) (n := 0) (R := fun f s' => ∃ v, f = .done (.ret v) ∧ ∃ out : List Value, v = .none ∧ SrtO.Srtd SrtO.ltIv out ∧ SrtO.Stb SrtO.ltIv out us ∧ s' = { s1 with heap := sortedHeap (s1.heap.push (seqObj "list" us.toArray 0)) s1.heap.objs.size us out.toArray })
    SrtO.swo_int at1 small (fun h2 => SrtO.ints_sortable hI h2) fun out a1 a2 => ⟨.none, rfl, out, rfl, a1, a2, rfl⟩
  refine wpAny_bind (wpAny_holding (wpAny_call_entry slot_list_sort ⟨_, at1, rfl⟩ entry_list_sort (wpAny_mono srt1 (fun f s' hf => ?_) (fun _ _ h => h)) (args_list_sort _)))
  obtain ⟨v, rfl, out, rfl, a1, a2, rfl⟩ := hf
  obtain ⟨b1, b2, b3⟩ := SrtO.ints_out hI a1 a2
  obtain ⟨c, hc⟩ := sortedHeap_at (vs := us) (out := out.toArray) at1
  have pn := b2.trans pk
  refine ⟨_, rfl, ?_⟩
  refine wpAny_pure ⟨_, rfl, k _ s1.heap.objs.size out.toArray c (out.map SrtO.iv) (fun b u e => ?_) g1 o1 grow hc (by simpa using b1) (lt_of_le_nodup _ b3 (pn.nodup_iff.mpr nd)) (fun z => by rw [pn.mem_iff, ← mem z]) (by rw [pn.length_eq, List.length_map, Array.length_toList]; exact num)⟩
  have lt1 := Heap.lt_size (keep b u e)
  exact (sortedHeap_old (Nat.ne_of_lt lt1) (by rw [size_push']; exact Nat.lt_succ_of_lt lt1)).trans (Heap.get?_push_of_some _ (keep b u e))
end
end T
namespace T
open PySem L2
/-! rising lists -/
def insI (x : Int) : List Int → List Int
  | [] => [x]
  | y :: ys => if x < y then x :: y :: ys else if x = y then y :: ys else y :: insI x ys
def srt : List Int → List Int
  | [] => []
  | x :: xs => insI x (srt xs)
theorem mem_insI {x z : Int} : ∀ {ys : List Int}, z ∈ insI x ys ↔ z = x ∨ z ∈ ys
  | [] => by simp [insI]
  | y :: ys => by
    unfold insI
    split
    · simp
    · split
      · next h => subst h; simp
      · rw [List.mem_cons, mem_insI, List.mem_cons]
        constructor
        · rintro (h | h | h)
          · exact Or.inr (Or.inl h)
          · exact Or.inl h
          · exact Or.inr (Or.inr h)
        · rintro (h | h | h)
          · exact Or.inr (Or.inl h)
          · exact Or.inl h
          · exact Or.inr (Or.inr h)
theorem insI_rises {x : Int} : ∀ {ys : List Int}, ys.Pairwise (· < ·) → (insI x ys).Pairwise (· < ·)
  | [], _ => by simp [insI]
  | y :: ys, h => by
    obtain ⟨h1, h2⟩ := List.pairwise_cons.mp h
    unfold insI
    split
    · next c =>
      refine List.pairwise_cons.mpr ⟨fun z hz => ?_, h⟩
      rcases List.mem_cons.mp hz with e | e
      · omega
      · have := h1 z e; omega
    · split
      · exact h
      · refine List.pairwise_cons.mpr ⟨fun z hz => ?_, insI_rises h2⟩
        rcases mem_insI.mp hz with e | e
        · omega
        · exact h1 z e
theorem mem_srt {z : Int} : ∀ {xs : List Int}, z ∈ srt xs ↔ z ∈ xs
  | [] => Iff.rfl
  | x :: xs => by rw [srt, mem_insI, mem_srt, List.mem_cons]
theorem srt_rises : ∀ xs : List Int, (srt xs).Pairwise (· < ·)
  | [] => List.Pairwise.nil
  | x :: xs => insI_rises (srt_rises xs)
theorem rises_same : ∀ {xs ys : List Int}, xs.Pairwise (· < ·) → ys.Pairwise (· < ·) → (∀ z, z ∈ xs ↔ z ∈ ys) → xs = ys
  | [], [], _, _, _ => rfl
  | [], y :: ys, _, _, h => by have := (h y).mpr List.mem_cons_self; cases this
  | x :: xs, [], _, _, h => by have := (h x).mp List.mem_cons_self; cases this
  | x :: xs, y :: ys, hx, hy, h => by
    obtain ⟨x1, x2⟩ := List.pairwise_cons.mp hx
    obtain ⟨y1, y2⟩ := List.pairwise_cons.mp hy
    have e : x = y := by
      rcases List.mem_cons.mp ((h x).mp List.mem_cons_self) with a | a
      · exact a
      · rcases List.mem_cons.mp ((h y).mpr List.mem_cons_self) with b | b
        · exact b.symm
        · have := y1 x a; have := x1 y b; omega
    subst e
    rw [rises_same x2 y2 fun z => ?_]
    constructor
    · intro hz
      rcases List.mem_cons.mp ((h z).mp (List.mem_cons_of_mem _ hz)) with a | a
      · have := x1 z hz; omega
      · exact a
    · intro hz
      rcases List.mem_cons.mp ((h z).mpr (List.mem_cons_of_mem _ hz)) with a | a
      · have := y1 z hz; omega
      · exact a
theorem srt_len : ∀ xs : List Int, (srt xs).length ≤ xs.length
  | [] => Nat.le_refl _
  | x :: xs => by
    have h : ∀ ys : List Int, (insI x ys).length ≤ ys.length + 1 := by
      intro ys
      induction ys with
      | nil => simp [insI]
      | cons y ys ih =>
        unfold insI
        split
        · simp
        · split
          · simp
          · simp only [List.length_cons]; omega
    have := h (srt xs)
    have := srt_len xs
    rw [srt, List.length_cons]; omega
/-! the calls -/
def rSetL (K : PySem.W.Frag) (w : World) : List V → Hp → VK → Prop := fun xs H Q => ∃ (a : Addr) (ks : List Int), xs = [.ref a] ∧ SqL K H a (ks.map V.int) ∧ ks.length < 4000 ∧ ∀ (p : Addr) (c : Nat), H p = none → c ≤ ks.length → Q (.ref p) (upd H p (SetO w p (fun j => decide (j ∈ ks)) c))
theorem cr_setL {X : Cx} (hc : X.calm = true) : CallR X (.type "set") (rSetL X.K X.w) := by
  intro pins s σ H xs us Q I r h
  obtain ⟨a, ks, rfl, hq, few, q⟩ := h
  rw [Vals.ref1 r]
  obtain ⟨its, rv, pl, _⟩ := I.list hq
  refine set_of_list ks (I.ok.hd hc) pl.isList (by simpa using ints_of_vals rv) (by unfold scanBound; omega) fun h' tk c R hcn k => ?_
  exact ⟨.ref _, upd H s.heap.objs.size (SetO X.w s.heap.objs.size (fun j => decide (j ∈ ks)) c), I.laid (t' := tk) k (Nat.le_refl _) (setO_new R), rfl, q _ _ (I.hok.fresh (Nat.le_refl _)) hcn⟩
def rSortedS (w : World) : List V → Hp → VK → Prop := fun xs H Q => ∃ (a : Addr) (S : Int → Bool) (n : Nat), xs = [.ref a] ∧ H a = some (SetO w a S n) ∧ n < 4000 ∧ ∀ (zs : List Int) (p : Addr), zs.Pairwise (· < ·) → (∀ z : Int, z ∈ zs ↔ S z = true) → zs.length = n → H p = none → Q (.ref p) (upd H p (.lst (zs.map V.int)))
open PySem.Spec PyProof.Rows in
theorem cr_sortedS {X : Cx} (hc : X.calm = true) : CallR X (.builtin "sorted") (rSortedS X.w) := by
  intro pins s σ H xs us Q I r h
  obtain ⟨a, S, n, rfl, at_, few, q⟩ := h
  rw [Vals.ref1 r]
  refine sorted_of_set (setO_get I at_) (I.ok.hd hc) fun s' p out c zs keep g1 o1 grow hp hz rs mem num => ?_
  have hl : (zs.map V.int).length ≤ sizeLine := by rw [List.length_map, num, sizeLine_eq]; omega
  have np : H p = none := I.hok.fresh grow
  have same : s' = { s with heap := s'.heap, gens := s'.gens, drawn := s'.drawn, toks := s'.toks } := by
    obtain ⟨a1, a2, a3, a4, a5⟩ := s'
    obtain ⟨b1, b2, b3, b4, b5⟩ := s
    cases o1; rfl
  rw [same]
  have J : Inv X pins σ (upd H p (.lst (zs.map V.int))) { s with heap := s'.heap, gens := s'.gens, drawn := s'.drawn, toks := s'.toks } := I.call (ch := []) (Un.laid keep grow np) (I.hok.laid keep grow ⟨hl, out.toList, c, vals_of_ints hz, hp⟩) (by rw [g1]; exact I.bare) (fun _ z => nomatch z)
  exact ⟨.ref p, _, J, rfl, q zs p rs mem num np⟩
section
variable {X : Cx} {K : PySem.W.Frag} {w : World}
theorem kc_setL (hc : X.calm = true) (e : X.K = K := by rfl) (e2 : X.w = w := by rfl) : CallR X (.type "set") (rSetL K w) := by subst e; subst e2; exact cr_setL hc
theorem kc_sortedS (hc : X.calm = true) (e2 : X.w = w := by rfl) : CallR X (.builtin "sorted") (rSortedS w) := by subst e2; exact cr_sortedS hc
theorem pr_ints {F : Hp} : ∀ {vs : List V} {a : List Int}, Paired (rInt.r F) vs a → vs = a.map V.int
  | _, _, .nil => rfl
  | _, _, .cons h t => by rw [show _ = V.int _ from h, pr_ints t]; rfl
/-- a set of whole numbers -/
def rSetI (w : World) : Rl (List Int) where
  r := fun F v xs => ∃ (p : Addr) (c : Nat), v = .ref p ∧ F p = some (SetO w p (fun j => decide (j ∈ xs)) c) ∧ c < 4000
  mono := fun s ⟨p, c, e, h, hc⟩ => ⟨p, c, e, s _ _ h, hc⟩
def setI64 (xs : List Int) : Option (List Int) := if xs.length < 4000 then some xs else none
theorem vl_setL : VLc (rSetL K w) (arOne (rLst rInt)) (rSetI w) setI64 := fun F H O xs a c W ⟨v, e, p, vs, ev, hp, rp⟩ hf Q q => by
  unfold setI64 at hf
  split at hf
  · next hl =>
    cases hf
    subst e ev
    have e2 : vs = a.map V.int := pr_ints rp
    refine ⟨p, a, rfl, SqL.of (by rw [← e2]; exact W.sub _ _ hp), hl, fun p2 k np hk => ?_⟩
    exact q _ _ _ (W.sameF np) (W.newF np) ⟨p2, k, rfl, upd_same, by omega⟩
  · cases hf
theorem vo_sortedS : VLo (rSortedS w) (arOne (rSetI w)) (oLst rInt) (fun xs => some (srt xs)) := fun F H O xs a c W ⟨v, e, p, n, ev, hp, hn⟩ hf Q q => by
  cases hf
  subst e ev
  refine ⟨p, _, n, rfl, W.sub _ _ hp, hn, fun ns p2 hs hm _ np => ?_⟩
  have e2 : ns = srt a := rises_same hs (srt_rises a) fun z => by rw [hm z, mem_srt, decide_eq_true_iff]
  subst e2
  refine q (.ref p2) F _ [(p2, .lst ((srt a).map V.int))] (SameR _) ⟨p2, _, rfl, rfl, ?_⟩ (W.newO np)
  generalize srt a = zs
  induction zs with
  | nil => exact .nil
  | cons z zs ih => exact .cons rfl ih
end
end T

/-! T30: e or d, e a tuple or None. -/
namespace T
open PySem L2
section
variable {X : Cx} {K : PySem.W.Frag} {a b : Expr} {rest : List Expr} {pos : Pos} {ta tb : TE}
theorem kpe_orT (e : X.K = K := by rfl) (ha : PE X a ta) (hb : PE X (.BoolOp .Or (b :: rest) pos) tb) : PE X (.BoolOp .Or (a :: b :: rest) pos) (tOrT K ta tb) := by subst e; exact pe_orT ha hb
end
section
variable {S α : Type} {K : PySem.W.Frag} {te tb : TE} {σ : L2.St} {F : Hp} {A : Ow S} {T : Ar α} {m : M S (Option α)} {m2 : M S α}
def orO (mb : M S α) (o : Option α) : M S α := match o with
  | some x => ret x
  | none => mb
theorem ev_orO (hn : ∀ F vs x, T.r F vs x → vs ≠ []) (h : Ev te σ F A (rOpt (rTh T)) m) (h' : Ev tb σ F A (rTh T) m2) : Ev (tOrT K te tb) σ F A (rTh T) (bnd m (orO m2)) := fun s b s' hm F1 H c O sm ho W Q q => by
  obtain ⟨a, s1, h1, hm⟩ := bnd_some hm
  refine h s a _ h1 F1 H c O sm ho W _ fun v F2 H2 c2 s2 o2 W2 r2 => ?_
  cases a with
  | none =>
    cases (show v = .non from r2)
    exact ⟨false, rfl, by
      rw [if_neg (by decide)]
      exact h' s1 b s' hm F2 H2 c2 O (sm.trans s2) o2 W2 Q fun v F3 H3 c3 s3 o3 W3 r3 => q v F3 H3 c3 (s2.trans s3) o3 W3 r3⟩
  | some x =>
    obtain ⟨rfl, rfl⟩ := ret_some hm
    obtain ⟨p, vs, rfl, hp, rp⟩ := id r2
    refine ⟨true, ?_, by rw [if_pos rfl]; exact q _ F2 H2 c2 s2 o2 W2 r2⟩
    refine .inr (.inl ⟨vs, SqT.of (W2.sub _ _ hp), ?_⟩)
    have := hn _ _ _ rp
    cases vs with
    | nil => exact absurd rfl this
    | cons v vs => rfl
end
end T

/-! T31: a comprehension over an owned list that its turns leave alone. -/
namespace T
open PySem L2
section
variable {S S' S0 T T' U α β : Type} {R : Rl α} {K : PySem.W.Frag} {σ : L2.St} {F : Hp} {A : Ow S} {A' : Ow S'} {te : TE} {tt : TT} {g : TG} {v : V} {j : Nat} {vs : List Nat} {T' : Rl β}
/-- a part is taken out, and put back -/
structure Lend (A : Ow S) (A' : Ow S') (B : Ow T) (gt : S → T) (π : S → S') (ρ : S → S' → S) : Prop where
  sp : ∀ {F : Hp} {s : S} {c : Ch}, A.o F s c → ∃ c1 c2, c.Perm (c1 ++ c2) ∧ B.o F (gt s) c1 ∧ A'.o F (π s) c2
  jn : ∀ {F : Hp} {s : S} {t : S'} {c1 c2 : Ch}, B.o F (gt s) c1 → A'.o F t c2 → ∃ c, A.o F (ρ s t) c ∧ c.Perm (c1 ++ c2)
theorem lend_r {A : Ow S} {B : Ow T} : Lend (star A B) A B (fun s => s.2) (fun s => s.1) (fun s t => (t, s.2)) := ⟨fun ⟨c1, c2, e, a, b⟩ => ⟨c2, c1, by rw [e]; exact List.perm_append_comm, b, a⟩, fun {F s t c1 c2} b a => ⟨c2 ++ c1, ⟨c2, c1, rfl, a, b⟩, List.perm_append_comm⟩⟩
theorem lend_l {B : Ow T} {C : Ow U} {gt : S → T} {π : S → S'} {ρ : S → S' → S} (h : Lend A A' B gt π ρ) : Lend (star A C) (star A' C) B (fun s => gt s.1) (fun s => (π s.1, s.2)) (fun s t => (ρ s.1 t.1, t.2)) := ⟨fun ⟨ca, cb, e, a, b⟩ => by
  obtain ⟨c1, c2, pm, hb, ha⟩ := h.sp a
  exact ⟨c1, c2 ++ cb, by rw [e, ← List.append_assoc]; exact pm.append_right cb, hb, c2, cb, rfl, ha, b⟩, fun {F s t c1 c2} b ⟨ca, cb, e, a, c⟩ => by
  obtain ⟨cc, h1, pm⟩ := h.jn (s := s.1) b a
  exact ⟨cc ++ cb, ⟨cc, cb, rfl, h1, c⟩, by rw [e, ← List.append_assoc]; exact pm.append_right cb⟩⟩
def lndL {S S' T Ω : Type} (gt : S → T) (π : S → S') (ρ : S → S' → S) (k : T → S' → Option (Ω × S')) : S → Option (Ω × S) := fun s => (k (gt s) (π s)).map fun p => (p.1, ρ s p.2)
theorem eo_lcL {gt : S → List α} {π : S → S'} {ρ : S → S' → S} {f : α → M S' (Option β)} (hv : σ[j]? = some (some v)) (h : Lend A A' (oLst R v) gt π ρ) (hb : ∀ v x F', Same F F' → R.r F' v x → Cb g tt te vs v (wipe σ vs) F' A' T' (f x)) :
    EvO (tLc (iList K (tVar j)) g tt te vs) σ F A (oLst T') (lndL gt π ρ fun xs => bnd (lft (chk xs)) fun xs => mpo f xs) := fun s ys s' hm F1 H c O sm ho W Q q => by
  obtain ⟨c1, c2, pm, ⟨l, ws, rfl, rfl, rp⟩, o2⟩ := h.sp ho
  have W2 : Wd F1 H (c2 ++ ((l, .lst ws) :: O)) := W.perm ((pm.append_right O).trans (by simpa using (perm_front (l, .lst ws) c2 O)))
  replace hm : Option.map (fun p => (p.1, ρ s p.2)) ((bnd (lft (chk (gt s))) fun xs => mpo f xs) (π s)) = some (ys, s') := hm
  cases hk : (bnd (lft (chk (gt s))) fun xs => mpo f xs) (π s) with
  | none => rw [hk] at hm; cases hm
  | some p =>
    rw [hk] at hm
    obtain ⟨zs0, t0⟩ := p
    cases hm
    obtain ⟨xs, s1', h2, hm2⟩ := bnd_some hk
    obtain ⟨h2', rfl⟩ := lft_some h2
    obtain ⟨rfl, hlen⟩ := chk_some h2'
    have hx := paired_len rp
    have inO : ∀ (F3 H3 : Hp) (C : Ch), Wd F3 H3 (C ++ ((l, .lst ws) :: O)) → SqL K H3 l ws := fun F3 H3 C W3 => SqL.of (W3.own (l, .lst ws) (by simp)).1
    refine ⟨_, hv, l, rfl, ⟨ws, inO F1 H c2 W2⟩, fun D hD => ?_⟩
    refine lc_it (hx ▸ walk_list (K := K) (a := l) (xs := ws)) (fun i H3 => ∃ zs us t F3 c3 vs3, Same F1 F3 ∧ A'.o F3 t c3 ∧ Wd F3 H3 ((D, .lst vs3) :: (c3 ++ ((l, .lst ws) :: O))) ∧ Paired (T'.r F3) vs3 zs ∧ mpo f ((gt s).drop i) t = some (us, t0) ∧ zs0 = zs ++ us ∧ zs.length ≤ i) ?_ ?_ ?_ ?_
    · exact ⟨[], zs0, π s, F1, c2, [], SameR _, o2, W2.newO hD, .nil, hm2, rfl, Nat.le_refl _⟩
    · rintro i H3 _ ⟨zs, us, t, F3, c3, vs3, s3, o3, W3, _⟩
      exact inO F3 H3 ((D, .lst vs3) :: c3) W3
    · rintro i x H3 H4 hi ⟨zs, us, t, F3, c3, vs3, s3, o3, W3, rpz, hmp, rfl, hzl⟩ y
      obtain ⟨rfl, e⟩ := y
      obtain ⟨a, ha, ra⟩ := paired_get rp e
      have hd : (gt s).drop i = a :: (gt s).drop (i + 1) := by
        rw [List.drop_eq_getElem_cons hi]; congr 1; exact (List.getElem?_eq_some_iff.mp ha).2
      rw [hd] at hmp
      obtain ⟨o, t1, e1, hmp⟩ := bnd_some hmp
      obtain ⟨us', t2, e2, hmp⟩ := bnd_some hmp
      obtain ⟨rfl, rfl⟩ := ret_some hmp
      refine hb x a F3 (sm.trans s3) (R.mono s3 ra) t o t1 e1 F3 _ c3 ((D, .lst vs3) :: ((l, .lst ws) :: O)) (SameR _) o3 (W3.perm (perm_front _ _ _)) _ _ fun F5 H5 c5 s5 o5 W5 => ?_
      have W6 := W5.perm (perm_front _ _ _).symm
      cases o with
      | none => exact ⟨zs, us', t1, F5, c5, vs3, s3.trans s5, o5, W6, paired_mono (fun _ _ => T'.mono s5) rpz, e2, rfl, by omega⟩
      | some b =>
        refine fun u ru => ⟨vs3, W6.hd, ?_, zs ++ [b], us', t1, F5, c5, vs3 ++ [u], s3.trans s5, o5, W6.set, (paired_mono (fun _ _ => T'.mono s5) rpz).snoc ru, e2, by simp, by simp; omega⟩
        rw [paired_len rpz]; exact lim_le (by omega)
    · rintro H3 ⟨zs, us, t, F3, c3, vs3, s3, o3, W3, rpz, hmp, rfl, hzl⟩
      rw [List.drop_of_length_le (Nat.le_refl _)] at hmp
      obtain ⟨rfl, rfl⟩ := ret_some hmp
      obtain ⟨cc, oc, pc⟩ := h.jn (s := s) (F := F3) (c1 := [(l, .lst ws)]) (c2 := c3) ⟨l, ws, rfl, rfl, paired_mono (fun _ _ => R.mono s3) rp⟩ o3
      refine q (.ref D) F3 H3 cc [(D, .lst vs3)] s3 oc ⟨D, vs3, rfl, rfl, by simpa using rpz⟩ (W3.perm ?_)
      refine List.Perm.cons _ ?_
      exact ((perm_front (l, .lst ws) c3 O).symm).trans (by simpa using (pc.append_right O).symm)
theorem eo_lcLA {gt : S → List α} {π : S → S'} {ρ : S → S' → S} {f : α → M S' β} (hv : σ[j]? = some (some v)) (h : Lend A A' (oLst R v) gt π ρ) (hb : ∀ v x F', Same F F' → R.r F' v x → Cb g tYes te vs v (wipe σ vs) F' A' T' (bnd (f x) fun y => ret (some y))) :
    EvO (tLc (iList K (tVar j)) g tYes te vs) σ F A (oLst T') (lndL gt π ρ fun xs => bnd (lft (chk xs)) fun xs => mp f xs) := by
  have h := eo_lcL (K := K) hv h hb
  rw [show (fun xs => bnd (lft (chk xs)) fun xs => mp f xs) = (fun xs : List α => bnd (lft (S := S') (chk xs)) fun xs => mpo (fun x => bnd (f x) fun y => ret (some y)) xs) from by funext xs; congr 1; funext ys; exact mp_eq f ys]
  exact h
theorem tot_lndL {Ω : Type} {gt : S → T} {π : S → S'} {ρ : S → S' → S} {k : T → S' → Option (Ω × S')} {s : S} {Q : Ω × S → Prop} : Tot (lndL gt π ρ k) s Q ↔ Tot (k (gt s)) (π s) (fun p => Q (p.1, ρ s p.2)) := by
  unfold Tot lndL
  constructor
  · rintro ⟨w, e, q⟩
    cases h : k (gt s) (π s) with
    | none => rw [h] at e; cases e
    | some p => rw [h] at e; cases e; exact ⟨p, rfl, q⟩
  · rintro ⟨p, h, q⟩; exact ⟨_, by rw [h]; rfl, q⟩
end
end T

/-! T32: displays of one pair. -/
namespace T
open PySem L2 PySem.Spec PyProof.Rows
/-- {k: v}, k a tuple -/
def tDisp1N (w : World) (tk tv : TE) : TE := fun σ H Q => ∀ p, H p = none → tk σ (upd H p (.ext (DRaw w p []))) fun x H1 => tv σ H1 fun y H2 => ∃ b k, x = .ref b ∧ KIs H2 k (.ref b) ∧ k.depth ≤ 8 ∧ H2 p = some (.ext (DRaw w p [])) ∧ ∀ u, RelV y u → Q (.ref p) (upd H2 p (.ext (DRaw w p [(k, b, u)])))
theorem pe_disp1N {X : Cx} {k v : Expr} {tk tv : TE} {pos : Pos} (hu : X.A.units + 64 < cLine) (hk : PE X k tk) (hv : PE X v tv) : PE X (.Dict [some k] [v] pos) (tDisp1N X.w tk tv) := by
  refine ⟨fun pins s σ H Q I q => ?_⟩
  have I1 := I.laid (a := s.heap.objs.size) (o := .ext (DRaw X.w s.heap.objs.size [])) (h' := s.heap.push { cls := .type "dict", data := .dict #[] }) (t' := s.toks) (fun _ _ q => Heap.get?_push_of_some _ q) (Nat.le_refl _)
    (DRaw.ok ⟨beq_eq_false_iff_ne.mpr (Ne.symm (Nat.ne_of_lt I.big)), Nat.zero_le _, _, #[], 0, Heap.get?_push_size _ rfl, ⟨rfl, rfl, rfl⟩, rfl, rfl, List.nodup_nil⟩)
  have q1 := q s.heap.objs.size (I.hok.fresh (Nat.le_refl _))
  rw [arm_eval_Dict, show (evalEachOpt [some k] X.env).zip ((evalEach [v] X.env).map fun (y : Sem Value) => (do let x ← y; standAt pos; pure x : Sem Value)) = [(eval k X.env, (do let x ← eval v X.env; standAt pos; pure x : Sem Value))].map (fun p => (some p.1, p.2)) from rfl, dictDisplay_pairs [(eval k X.env, (do let x ← eval v X.env; standAt pos; pure x : Sem Value))] (by simp) (by simp)]
  refine wpAny_bind (wpAny_standAt (wpAny_bind (wpAny_subDictH (knd := nestedKind X.prog X.w) (show X.A.units + 8 < cLine by omega) (by simp) ?_)))
  have pp := (pps_cons (X := X) (pos := pos) hk hv pps_nil).run pins { s with heap := s.heap.push { cls := .type "dict", data := .dict #[] } } σ (upd H s.heap.objs.size (.ext (DRaw X.w s.heap.objs.size [])))
    (fun ps H2 => match ps with
      | [(x, y)] => ∃ b kk, x = .ref b ∧ KIs H2 kk (.ref b) ∧ kk.depth ≤ 8 ∧ H2 s.heap.objs.size = some (.ext (DRaw X.w s.heap.objs.size [])) ∧ ∀ u, RelV y u → Q (.ref s.heap.objs.size) (upd H2 s.heap.objs.size (.ext (DRaw X.w s.heap.objs.size [(kk, b, u)])))
      | _ => False) I1 q1
  refine wpAny_mono pp (fun vs s1 ⟨ps, H1, I2, rel, hq⟩ => ?_) (fun _ _ h => h)
  match ps, rel, hq with
  | [(x, y)], .cons (b := (xv, u)) ⟨rx, ru⟩ .nil, ⟨b, kk, e1, hk1, hd1, hat, hq⟩ =>
    subst e1
    cases (show xv = Value.ref b from rx)
    have hE : DEl H1 X.w s.heap.objs.size [] := ⟨hat, fun q hq => nomatch hq⟩
    obtain ⟨a1, a2, a3⟩ := hE.of I2
    refine ⟨[(kk, b, u)], ⟨rfl, rfl, hk1.key I2 hd1, trivial⟩, a3, fun h' tk hm hs => wpAny_pure ⟨.ref s.heap.objs.size, _, ?_, rfl, hq u ru⟩⟩
    obtain ⟨o, es, ep, e1, e2, e3, e4, e5, e6⟩ := hm
    exact d_write I2 (by rw [hat]; trivial) hs ⟨o, e1⟩ (DRaw.ok ⟨a1, by show 1 ≤ _; rw [sizeLine_eq]; decide, o, es, ep, e1, e2, e3, e4, e6⟩)
theorem kpe_disp1N {X : Cx} {w : World} {k v : Expr} {tk tv : TE} {pos : Pos} (hu : X.A.units + 64 < cLine) (hk : PE X k tk) (hv : PE X v tv) (e : X.w = w := by rfl) : PE X (.Dict [some k] [v] pos) (tDisp1N w tk tv) := by subst e; exact pe_disp1N hu hk hv
section
variable {S α β : Type} [DecidableEq α] {k : α → NestedKey} {R : Rl α} {V' : Rl β} {w : World} {σ : L2.St} {F : Hp} {A : Ow S} {tk tv : TE} {m : M S α} {mv : M S β}
theorem eo_disp1N (kt : KeyT R k) (he : Ev tk σ F A R m) (hv : Ev tv σ F A V' mv) : EvO (tDisp1N w tk tv) σ F A (oDic w k V') (bnd m fun x => bnd mv fun y => ret [(x, y)]) := fun s b s' hm F1 H c O sm ho W Q q p np => by
  obtain ⟨x, s1, h1, hm⟩ := bnd_some hm
  obtain ⟨y, s2, h2, hm⟩ := bnd_some hm
  obtain ⟨rfl, rfl⟩ := ret_some hm
  have W0 : Wd F1 (upd H p (.ext (DRaw w p []))) (c ++ ((p, .ext (DRaw w p [])) :: O)) := (W.newO np).perm (perm_front _ _ _)
  refine he s x s1 h1 F1 _ c _ sm ho W0 _ fun vx F2 H2 c2 sm2 o2 W2 r2 => ?_
  refine hv s1 y _ h2 F2 H2 c2 _ (sm.trans sm2) o2 W2 _ fun vy F3 H3 c3 sm3 o3 W3 r3 => ?_
  obtain ⟨b', rfl, hb, hd⟩ := kt.ref (R.mono sm3 r2)
  have W4 := W3.perm (perm_front (p, .ext (DRaw w p [])) c3 O).symm
  refine ⟨b', k x, rfl, hb.mono W3.sub, hd, W4.hd, fun u ru => ?_⟩
  exact q (.ref p) F3 _ c3 [(p, .ext (DRaw w p [(k x, b', u)]))] (sm2.trans sm3) o3 ⟨p, _, rfl, rfl, .cons ⟨rfl, hb, hd, vy, r3, ru⟩ .nil⟩ W4.set
end
end T

/-! T33: places of tuples and lists that may be one of several. -/
namespace T
open PySem L2
section
variable {S α β γ δ : Type} {K : PySem.W.Frag} {R : Rl α} {R' : Rl β} {U : Rl γ} {U' : Rl δ} {i : Int}
def PrjT (K : PySem.W.Frag) (R : Rl α) (i : Int) (R' : Rl β) (f : α → Option β) : Prop := ∀ F H v x y, Same F H → R.r F v x → f x = some y → ∃ p xs w, v = .ref p ∧ SqT K H p xs ∧ atI xs i = some w ∧ R'.r F w y
def PrjL (K : PySem.W.Frag) (R : Rl α) (i : Int) (R' : Rl β) (f : α → Option β) : Prop := ∀ F H v x y, Same F H → R.r F v x → f x = some y → ∃ p xs w, v = .ref p ∧ SqL K H p xs ∧ atI xs i = some w ∧ R'.r F w y
theorem pt_th {X : Ar α} {n : Nat} {f : α → β} (h : Prj X n R' f) (hi : i = (n : Int) := by rfl) : PrjT K (rTh X) i R' (fun x => some (f x)) := fun F H v x y s ⟨p, vs, e, hp, r⟩ hf => by
  cases hf
  obtain ⟨w, e1, r1⟩ := h.at_ r
  exact ⟨p, vs, w, e, SqT.of (s _ _ hp), by rw [hi]; exact atI_ofNat e1, r1⟩
theorem pl_lh {X : Ar α} {n : Nat} {f : α → β} (h : Prj X n R' f) (hi : i = (n : Int) := by rfl) : PrjL K (rLh X) i R' (fun x => some (f x)) := fun F H v x y s ⟨p, vs, e, hp, r⟩ hf => by
  cases hf
  obtain ⟨w, e1, r1⟩ := h.at_ r
  exact ⟨p, vs, w, e, SqL.of (s _ _ hp), by rw [hi]; exact atI_ofNat e1, r1⟩
theorem pt_sum {f : α → Option γ} {g : β → Option γ} (h : PrjT K R i U f) (h' : PrjT K R' i U g) : PrjT K (rSum R R') i U (Sum.elim f g) := fun F H v x y s r hf => match x, r, hf with
  | .inl a, r, hf => h F H v a y s r hf
  | .inr b, r, hf => h' F H v b y s r hf
theorem pl_sum {f : α → Option γ} {g : β → Option γ} (h : PrjL K R i U f) (h' : PrjL K R' i U g) : PrjL K (rSum R R') i U (Sum.elim f g) := fun F H v x y s r hf => match x, r, hf with
  | .inl a, r, hf => h F H v a y s r hf
  | .inr b, r, hf => h' F H v b y s r hf
theorem pt_l {f : α → Option γ} (h : PrjT K R i U f) : PrjT K R i (rSum U U') (fun x => (f x).map Sum.inl) := fun F H v x y s r hf => by
  obtain ⟨z, hz, rfl⟩ := Option.map_eq_some_iff.mp hf
  exact h F H v x z s r hz
theorem pt_r {f : α → Option δ} (h : PrjT K R i U' f) : PrjT K R i (rSum U U') (fun x => (f x).map Sum.inr) := fun F H v x y s r hf => by
  obtain ⟨z, hz, rfl⟩ := Option.map_eq_some_iff.mp hf
  exact h F H v x z s r hz
theorem pl_l {f : α → Option γ} (h : PrjL K R i U f) : PrjL K R i (rSum U U') (fun x => (f x).map Sum.inl) := fun F H v x y s r hf => by
  obtain ⟨z, hz, rfl⟩ := Option.map_eq_some_iff.mp hf
  exact h F H v x z s r hz
theorem pl_r {f : α → Option δ} (h : PrjL K R i U' f) : PrjL K R i (rSum U U') (fun x => (f x).map Sum.inr) := fun F H v x y s r hf => by
  obtain ⟨z, hz, rfl⟩ := Option.map_eq_some_iff.mp hf
  exact h F H v x z s r hz
theorem pt_never : PrjT K R i U (fun _ => none) := fun F H v x y s r hf => by cases hf
theorem pl_never : PrjL K R i U (fun _ => none) := fun F H v x y s r hf => by cases hf
variable {te : TE} {σ : L2.St} {F : Hp} {A : Ow S} {m : M S α}
theorem ev_pt {f : α → Option γ} (h : PrjT K R i U f) (he : Ev te σ F A R m) : Ev (tOp (rIxT K) te (tC (.int i))) σ F A U (bnd m fun x => lft (f x)) := fun s b s' hm F1 H c O sm ho W Q q => by
  obtain ⟨x, s1, h1, hm⟩ := bnd_some hm
  obtain ⟨h2, rfl⟩ := lft_some hm
  refine he s x s' h1 F1 H c O sm ho W _ fun v F2 H2 c2 s2 o2 W2 r2 => ?_
  obtain ⟨p, xs, w, e, hp, hi, rw_⟩ := h F2 H2 v x b W2.sub r2 h2
  exact ⟨p, xs, _, w, e, rfl, hp, hi, q w F2 H2 c2 s2 o2 W2 rw_⟩
theorem ev_pl {f : α → Option γ} (h : PrjL K R i U f) (he : Ev te σ F A R m) : Ev (tOp (rIxL K) te (tC (.int i))) σ F A U (bnd m fun x => lft (f x)) := fun s b s' hm F1 H c O sm ho W Q q => by
  obtain ⟨x, s1, h1, hm⟩ := bnd_some hm
  obtain ⟨h2, rfl⟩ := lft_some hm
  refine he s x s' h1 F1 H c O sm ho W _ fun v F2 H2 c2 s2 o2 W2 r2 => ?_
  obtain ⟨p, xs, w, e, hp, hi, rw_⟩ := h F2 H2 v x b W2.sub r2 h2
  exact ⟨p, xs, _, w, e, rfl, hp, hi, q w F2 H2 c2 s2 o2 W2 rw_⟩
end
theorem vl_isNoneI : VL2 (fun x y H Q => y = .non ∧ Q (.bl (decide (x = .non))) H) rInt rNone rBool (fun a _ => some ((fun _ => false) a)) := fun F H O x y a b c W hx hy hf Q q => by
  cases hf
  refine ⟨hy, q _ F H (SameR _) W ?_⟩
  rw [show x = .int a from hx]; rfl
theorem vl_notNoneI : VL2 (fun x y H Q => y = .non ∧ Q (.bl (!decide (x = .non))) H) rInt rNone rBool (fun a _ => some ((fun _ => true) a)) := fun F H O x y a b c W hx hy hf Q q => by
  cases hf
  refine ⟨hy, q _ F H (SameR _) W ?_⟩
  rw [show x = .int a from hx]; rfl
end T

/-! T34: a tuple none times. -/
namespace T
open PySem L2 PySem.Spec PyProof.Rows
theorem tuple_mul0 (l : Addr) (items : Array Value) (n : Nat) (dd : Option Addr) (sl : Array (Option Value)) (x : Int) (u : Tok) (c0 : (decide (x < -(2 ^ 63)) || decide (x ≥ 2 ^ 63)) = false) (c1 : (items.isEmpty || x == 1) = false) (c2 : (decide (x ≤ 0) || items.isEmpty) = true) :
    Meets (Builtin.«tuple.__mul__» ⟨[.ref l, .int x u], []⟩) (fun _ R s => s.heap.get? l = some { cls := .type "tuple", dict := dd, data := .seq items n, slots := sl } ∧
      R (.ok (.ret (Value.ref s.heap.objs.size))) { s with heap := s.heap.push { cls := Value.type "tuple", data := Data.seq #[] }, toks := s.toks }) :=
  .of_wp fun prog w A R s h => by
    obtain ⟨hp, g, d, tk, os⟩ := s
    obtain ⟨hl, h⟩ := h
    have f1 := AutoSeq1.idx_int
    wp_walk using wpAny_loadPart' hl
    repeat (first
      | (refine wpAny_ite_false (decide_eq_false (by rw [c0]; exact Bool.false_ne_true)) ?_; wp_walk using wpAny_loadPart' hl)
      | (refine wpAny_ite_false (decide_eq_false (by rw [c1]; exact Bool.false_ne_true)) ?_; wp_walk using wpAny_loadPart' hl)
      | (refine wpAny_ite_true (decide_eq_true c2) ?_; wp_walk using wpAny_loadPart' hl))
    exact ⟨_, rfl, h⟩
def rRepT0 (K : PySem.W.Frag) : R2 := fun x y H Q => ∃ l xs, x = .ref l ∧ y = .int 0 ∧ SqT K H l xs ∧ xs ≠ [] ∧ ∀ p, H p = none → Q (.ref p) (upd H p (.tup []))
theorem op_repT0 {X : Cx} : OpR X (binaryOp .Mult) (rRepT0 X.K) := by
  intro pins s σ H x y v u Q I rx ry h
  obtain ⟨l, xs, rfl, rfl, hT, hne, q⟩ := h
  cases rx
  obtain ⟨t, rfl⟩ := ry
  obtain ⟨its, r, ⟨⟨cls, dd, data, sl⟩, ho, hc, n, hd⟩, hs⟩ := I.tuple hT
  simp only at hc hd
  subst hc hd
  have hle : its.length = xs.length := r.length.symm
  have hn : its ≠ [] := fun e => hne (by
    rw [e] at hle
    exact List.eq_nil_of_length_eq_zero hle.symm)
  have hi : its.toArray.isEmpty = false := by
    cases its with
    | nil => exact absurd rfl hn
    | cons a b => rfl
  have c1 : (its.toArray.isEmpty || (0 : Int) == 1) = false := by rw [hi]; rfl
  have c2 : (decide ((0 : Int) ≤ 0) || its.toArray.isEmpty) = true := by rw [hi]; rfl
  refine wpAny_binaryOp_repeat_ref (T := "tuple") (U := "int") (by decide) ⟨_, ho, rfl⟩ (fun s' => typeIs_int s' 0 t) noFill_tuple_mul F.fills_int_mul F.slot_int_rmul repeat_tuple F.slot_int_index.lookup
    (call_meets F.slot_int_rmul (typeIs_int s 0 t) F.entry_int_rmul (F.args_int_rmul_2 _ _) (int_rmul_tuple 0 t l its.toArray n dd sl)
      ⟨ho, rfl, ⟨_, ho, rfl⟩, call_meets F.slot_tuple_mul ⟨_, ho, rfl⟩ F.entry_tuple_mul (F.args_tuple_mul_2 _ _) (tuple_mul0 l its.toArray n dd sl 0 t (by decide) c1 c2) ⟨ho, ?_⟩⟩)
  refine ⟨.ref s.heap.objs.size, _, I.laid (t' := s.toks) (o := .tup []) (fun b ob q => Heap.get?_push_of_some _ q) (Nat.le_refl _) ?_, rfl, q _ (I.hok.fresh (Nat.le_refl _))⟩
  exact ⟨by simp [sizeLine_eq], [], .nil, IsTup.new _ _⟩
def rRepTN (K : PySem.W.Frag) : R2 := fun x y H Q => rRepT0 K x y H Q ∨ rRepTT K x y H Q
theorem kop_repTN {X : Cx} {K : PySem.W.Frag} (e : X.K = K := by rfl) : OpR X (binaryOp .Mult) (rRepTN K) := by subst e; exact op_repT0.or (op_repT1.or op_repT)
def repTN {α : Type} (xs : List α) (k : Int) : Option (List α) := match xs with
  | [] => none
  | x :: ys => if 0 ≤ k ∧ k < 1000 ∧ (x :: ys).length < 1000 then some (List.replicate k.toNat (x :: ys)).flatten else none
theorem vl_repTN {α : Type} {R : Rl α} {K : PySem.W.Frag} : VL2 (rRepTN K) (rTup R) rInt (rTup R) repTN := fun F H O x y a b c W hx hy hf Q q => by
  cases a with
  | nil => cases hf
  | cons x0 ys =>
    by_cases h0 : b = 0
    · subst h0
      obtain ⟨p1, vs, ex, hp, rp⟩ := hx
      simp only [repTN] at hf
      split at hf
      · cases hf
        have hne : vs ≠ [] := fun e => by subst e; cases rp
        refine .inl ⟨p1, vs, ex, hy, SqT.of (W.sub _ _ hp), hne, fun p np => ?_⟩
        exact q _ _ _ (W.sameF np) (W.newF np) ⟨p, [], rfl, upd_same, .nil⟩
      · cases hf
    · refine .inr (vl_repT F H O x y (x0 :: ys) b c W hx hy ?_ Q q)
      simp only [repTN] at hf
      split at hf
      · rename_i h
        simp only [repT]
        rw [if_pos ⟨by omega, h.2⟩]; exact hf
      · cases hf
end T

/-! T35: list.extend of an owned list by a list. -/
namespace T
open PySem L2 PySem.Spec PyProof.Rows
section
variable {S α Ω T' : Type} {K : PySem.W.Frag} {R : Rl α} {te : TE} {u : TS} {σ : L2.St} {F : Hp} {A : Ow S} {m : M S (List α)} {j : Nat} {v : V} {g : S → List α} {p : S → List α → S} {P : Post Ω}
theorem b_ext {f : S → Option Ω} (hv : σ[j]? = some (some v)) (e : Emb A (oLst R v) g p) (he : Ev te σ F A (rLst R) m) (k : B u σ F A P f) : B (tSeq (tDrop (tBM K "list" rExtend (tVar j) (tCons te tNil))) u) σ F A P (bnd m fun x => bnd (upL g p fun xs => catL xs x) fun _ => f) := fun s w hm F1 H c O sm ho W D q => by
  obtain ⟨x, s1, h1, hm⟩ := bnd_some hm
  obtain ⟨_, s2, h2, hm⟩ := bnd_some hm
  obtain ⟨xs, h2a, rfl⟩ := upL_some h2
  obtain ⟨rfl, hl⟩ := catL_some h2a
  refine ⟨v, hv, ?_⟩
  obtain ⟨l0, vs0, c0, e0, _, W0, _⟩ := emb_list e ho W
  refine ⟨by rw [e0]; exact Or.inl ⟨rfl, vs0, SqL.of W0.hd⟩, ?_⟩
  refine he s x s1 h1 F1 H c O sm ho W _ fun y F2 H2 c2 sm2 o2 W2 r2 => ?_
  obtain ⟨pb, zs, rfl, hb, rz⟩ := r2
  have hb2 := W2.sub _ _ hb
  obtain ⟨l, vs, c3, rfl, rp, W3, kk⟩ := emb_list e o2 W2
  refine ⟨l, pb, vs, zs, rfl, rfl, W3.hd, hb2, by rw [paired_len rp, paired_len rz, sizeLine_eq]; have : (1000000 : Nat) = lim := rfl; omega, ?_⟩
  obtain ⟨c4, o4, W4⟩ := kk F2 _ (vs ++ zs) (SameR _) (paired_app rp rz) _ W3.set
  exact k _ w hm F2 _ c4 O (sm.trans sm2) o4 W4 D (P.mono sm2 q)
end
end T

/-! T36: a tuple turned about: t[::-1]. -/
namespace HT
open PySem PySem.Spec PyProof.Rows L2
theorem pick_rev (its : List Value) : ((List.range its.length).filterMap fun (k : Nat) => its.toArray[((its.length : Int) - 1 + (k : Int) * (-1)).toNat]?) = its.reverse := by
  have e : ∀ k ∈ List.range its.length, its.toArray[((its.length : Int) - 1 + (k : Int) * (-1)).toNat]? = its.reverse[k]? := fun k hk => by
    have hl := List.mem_range.mp hk
    rw [List.getElem?_toArray, List.getElem?_reverse hl]
    congr 1; omega
  have e2 : ∀ (n : Nat) (ys : List Value), n ≤ ys.length → ((List.range n).filterMap fun k => ys[k]?) = ys.take n := by
    intro n ys
    induction n with
    | zero => intro _; simp
    | succ n ih =>
      intro h
      rw [List.range_succ, List.filterMap_append, ih (by omega)]
      have : ys[n]? = some ys[n] := List.getElem?_eq_getElem (by omega)
      rw [List.take_add_one, this, List.filterMap_cons, this]
      rfl
  have e3 : ∀ (xs : List Nat) (f g : Nat → Option Value), (∀ k ∈ xs, f k = g k) → xs.filterMap f = xs.filterMap g := by
    intro xs f g h
    induction xs with
    | nil => rfl
    | cons x xs ih => rw [List.filterMap_cons, List.filterMap_cons, h x (by simp), ih fun k hk => h k (List.mem_cons_of_mem _ hk)]
  rw [e3 _ _ _ e, e2 _ _ (by simp)]
  rw [List.take_of_length_le (by simp)]
theorem sliceApplied_rev {M : Model} {A : Around} {E : Value → Shared → Prop} {prog : Program} {w : World} {s : Shared} {sl : Addr} {t : Tok} {n : Nat} {Q : Int × Int × Nat → Shared → Prop} (hs : s.heap.IsSliceOf sl .none .none (.int (-1) t))
    (h : Q ((n : Int) - 1, -1, n) s) : wpAny (model prog w) A (Builtin.Slice.sliceApplied (.ref sl) (pure (n : Int))) Q E s := by
  obtain ⟨os, hos, hcs, hds⟩ := id hs
  unfold Builtin.Slice.sliceApplied Builtin.Slice.sliceFields
  refine wpAny_bind (wpAny_bind (wpAny_field hos hds (x := .none) rfl (wpAny_bind (wpAny_field hos hds (x := .none) rfl (wpAny_bind (wpAny_field hos hds (x := .int (-1) t) rfl (wpAny_pure ?_)))))))
  refine wpAny_bind (slicePart_int ?_)
  show wpAny _ _ (if ((-1 : Int) == 0) = true then _ else _) _ _ s
  rw [if_neg (by decide)]
  refine wpAny_bind (slicePart_none (wpAny_bind (slicePart_none (wpAny_bind (wpAny_pure ?_)))))
  have e : Builtin.Slice.sliceAdjust none none (-1) (n : Int) = ((n : Int) - 1, -1) := by
    unfold Builtin.Slice.sliceAdjust; rfl
  show wpAny _ _ (match Builtin.Slice.sliceAdjust none none (-1) (n : Int) with | (lo, hi) => pure (lo, (-1 : Int), Builtin.Slice.slicePlaces lo hi (-1))) _ _ s
  rw [e]
  have e2 : Builtin.Slice.slicePlaces ((n : Int) - 1) (-1) (-1) = n := by
    unfold Builtin.Slice.slicePlaces
    rw [if_neg (by decide)]
    split
    · rw [show (-(-1 : Int)) = 1 by rfl, Int.ediv_one]; omega
    · omega
  show wpAny _ _ (pure ((n : Int) - 1, (-1 : Int), Builtin.Slice.slicePlaces ((n : Int) - 1) (-1) (-1))) _ _ s
  rw [e2]
  exact wpAny_pure h
theorem getItem_tuple_rev {A : Around} {E : Value → Shared → Prop} {prog : Program} {w : World} {s : Shared} {t sl : Addr} {its : List Value} {tk : Tok} {Q : Value → Shared → Prop} (ht : IsTup s.heap t its.toArray) (hs : s.heap.IsSliceOf sl .none .none (.int (-1) tk))
    (h : Q (.ref s.heap.objs.size) { s with heap := s.heap.push { cls := .type "tuple", data := .seq its.reverse.toArray } })
    (hsz : its.length ≤ sizeLine) : wpAny (model prog w) A (getItem (.ref t) (.ref sl)) Q E s := by
  have htake : sizeOk (.seq its.reverse.toArray) := by
    show its.reverse.toArray.size ≤ sizeLine
    rw [List.size_toArray, List.length_reverse]; exact hsz
  obtain ⟨os, hos, hcs, hds⟩ := id hs
  have hTs : s.TypeIs (.ref sl) "slice" := ⟨os, hos, hcs⟩
  unfold getItem
  try with_reducible refine wpAny_holding ?_
  first | refine wpAny_bind (wpAny_pure ?_) | skip
  refine wpAny_bind (wpAny_sequenceKey ht.typeIs (by decide) ?_)
  refine wpAny_bind (wpAny_callSpecial?_slot (name := Str.ofString "__getitem__") ht.typeIs PyProof.Rows.slot_tuple_getitem
    (wpAny_call_entry PyProof.Rows.slot_tuple_getitem ht.typeIs entry_tuple_getitem ?_ (args_tuple_getitem _ _)))
  show wpAny _ _ (Builtin.Tuple.tupleItemsOf (.ref t) >>= _) _ _ s
  refine wpAny_bind (tupleItemsOf_ ht ?_)
  refine wpAny_bind (wpAny_typeOf hTs ?_)
  rw [if_pos (by decide)]
  refine wpAny_bind (sliceApplied_rev (n := its.length) (M := model prog w) hs ?_)
  have hno : ¬ ((((its.length : Int) - 1 == 0 && (-1 : Int) == 1 && its.length == its.toArray.size)) = true) := by
    intro q
    rw [Bool.and_eq_true, Bool.and_eq_true] at q
    exact absurd q.1.2 (by decide)
  show wpAny _ _ (if ((its.length : Int) - 1 == 0 && (-1 : Int) == 1 && its.length == its.toArray.size) = true then _ else _) _ _ s
  rw [if_neg hno, pick_rev]
  first
    | exact wpAny_bind (m := Builtin.Tuple.tupleExact _) (wpAny_newObj_type (wpAny_pure ⟨_, rfl, wpAny_pure h⟩) htake)
    | exact wpAny_bind (m := Builtin.Tuple.tupleExact _) (wpAny_newObj_type (wpAny_bind (wpAny_pure (wpAny_pure ⟨_, rfl, wpAny_pure h⟩))) htake)
    | exact wpAny_bind (wpAny_bind (m := Builtin.Tuple.tupleExact _) (wpAny_newObj_type (wpAny_pure (wpAny_pure ⟨_, rfl, wpAny_pure h⟩)) htake))
    | exact wpAny_bind (wpAny_bind (m := Builtin.Tuple.tupleExact _) (wpAny_newObj_type (wpAny_pure ⟨_, rfl, wpAny_pure h⟩) htake))
end HT
namespace T
open PySem L2 PySem.Spec PyProof.Rows
def tRev (K : PySem.W.Frag) (te tst : TE) : TE := fun σ H Q => te σ H fun x H1 => tst σ H1 fun y H2 => ∃ a xs, x = .ref a ∧ y = .int (-1) ∧ SqT K H2 a xs ∧ ∀ p, H2 p = none → Q (.ref p) (upd H2 p (.tup xs.reverse))
theorem pe_rev {X : Cx} {e st : Expr} {te tst : TE} {pos p2 : Pos} (he : PE X e te) (hst : PE X st tst) (hsub : ∀ v i, subscripted (.Slice none none (some st) p2) false v i = operate [v, i] (getItem v i) := by intros; rfl) : PE X (.Subscript e (.Slice none none (some st) p2) pos) (tRev X.K te tst) := by
  refine ⟨fun pins s σ H Q I h => ?_⟩
  refine Subscript_ (thn (he.run pins s σ H _ I h) fun v s1 ⟨x, H1, I1, r1, q1⟩ => ?_)
  refine wpAny_Slice ?_
  rw [evalPart_none]
  refine wpAny_pure (wpAny_pure ?_)
  rw [evalPart_some]
  refine thn (hst.run pins s1 σ H1 _ I1 q1) fun vs s3 ⟨y, H3, I3, r3, q3⟩ => ?_
  obtain ⟨a, xs, rfl, rfl, hx, q⟩ := q3
  cases r1
  obtain ⟨tk, rfl⟩ := r3
  have I4 : Inv X pins σ H3 { s3 with heap := s3.heap.push { cls := .type "slice", data := .fields #[.none, .none, .int (-1) tk] } } := I3.kept (t' := s3.toks) fun b ob q => Heap.get?_push_of_some _ q
  obtain ⟨its, r, ht, hz⟩ := I4.tuple hx
  show wpAny (model X.prog X.w) X.A (subscriptTail e (.Slice none none (some st) p2) (.ref a) (.ref s3.heap.objs.size)) (EP X pins σ Q) X.xe { s3 with heap := s3.heap.push { cls := .type "slice", data := .fields #[.none, .none, .int (-1) tk] } }
  refine tail_any (ops := [.ref a, .ref s3.heap.objs.size]) ht.typeIs PyProof.Rows.slot_tuple_getitem.lookup (HT.getItem_tuple_rev ht (Heap.IsSliceOf.new ..) ?_ (by rw [← r.length]; exact hz)) (hsub _ _)
  refine ⟨.ref _, _, I4.laid (t' := s3.toks) (o := .tup xs.reverse) (fun b ob q => Heap.get?_push_of_some _ q) (Nat.le_refl _) ?_, rfl, q _ (I4.hok.fresh (Nat.le_refl _))⟩
  exact ⟨by rw [List.length_reverse]; exact hz, _, r.reverse, IsTup.new _ _⟩
section
variable {S α : Type} {K : PySem.W.Frag} {R : Rl α} {te ts : TE} {σ : L2.St} {F : Hp} {A : Ow S} {m : M S (List α)} {mi : M S Int}
theorem paired_rev {δ : Type} {Q : V → δ → Prop} : ∀ {vs : List V} {xs : List δ}, Paired Q vs xs → Paired Q vs.reverse xs.reverse
  | _, _, .nil => .nil
  | _, _, .cons r t => by rw [List.reverse_cons, List.reverse_cons]; exact paired_app (paired_rev t) (.cons r .nil)
theorem ev_rev (h : Ev te σ F A (rTup R) m) (hs : Ev ts σ F A rInt mi) : Ev (tRev K te ts) σ F A (rTup R) (bnd m fun xs => bnd mi fun i => lft (if i = -1 then some xs.reverse else none)) := fun s b s' hm F1 H c O sm ho W Q q => by
  obtain ⟨xs, s1, h1, hm⟩ := bnd_some hm
  obtain ⟨i, s2, h2, hm⟩ := bnd_some hm
  obtain ⟨h3, rfl⟩ := lft_some hm
  by_cases hi : i = -1
  · rw [if_pos hi] at h3
    cases h3
    refine h s xs s1 h1 F1 H c O sm ho W _ fun v F2 H2 c2 s2' o2 W2 r2 => ?_
    refine hs s1 i _ h2 F2 H2 c2 O (sm.trans s2') o2 W2 _ fun y F3 H3 c3 s3' o3 W3 r3 => ?_
    obtain ⟨a, vs, rfl, ha, ra⟩ := (rTup R).mono s3' r2
    refine ⟨a, vs, rfl, by rw [show y = .int i from r3, hi], SqT.of (W3.sub _ _ ha), fun p np => ?_⟩
    exact q _ _ _ c3 ((s2'.trans s3').trans (W3.sameF np)) (A.mono (W3.sameF np) o3) (W3.newF np) ⟨p, _, rfl, upd_same, paired_rev (paired_mono (fun _ _ => R.mono (W3.sameF np)) ra)⟩
  · rw [if_neg hi] at h3; cases h3
end
end T

/-! T37: a dict {whole number: True}, owned: its state are its keys. -/
namespace T
open PySem L2 PySem.Spec PyProof.Rows
def kvD (ks : List Int) : List (Key × V) := ks.map fun k => (Sum.inl k, V.bl true)
/-- the dict with the keys ks, each True -/
def oKeys (v : V) : Ow (List Int) where
  o := fun _ ks c => ∃ d, v = .ref d ∧ c = [(d, .dK (kvD ks))]
  mono := fun _ h => h
theorem kvD_len (ks : List Int) : (kvD ks).length = ks.length := by unfold kvD; rw [List.length_map]
theorem kvD_any (ks : List Int) (k : Int) : ((kvD ks).any fun kv => decide (kv.1 = Sum.inl k)) = decide (k ∈ ks) := by
  unfold kvD
  rw [List.any_map]
  induction ks with
  | nil => rfl
  | cons x xs ih =>
    rw [List.any_cons, ih]
    by_cases e : x = k
    · subst e; simp
    · have e' : ¬ k = x := fun z => e z.symm
      simp [e, e']
theorem kvD_has (ks : List Int) (k : Int) : (valV (kvD ks) (Sum.inl k)).isSome = decide (k ∈ ks) := by rw [← valV_any, kvD_any]
def putD (ks : List Int) (k : Int) : List Int := if k ∈ ks then ks else ks ++ [k]
theorem kvD_put (ks : List Int) (k : Int) : putK (kvD ks) (Sum.inl k) (V.bl true) = kvD (putD ks k) := by
  unfold putK putD
  rw [kvD_any]
  by_cases h : k ∈ ks
  · rw [if_pos (decide_eq_true h), if_pos h]
    unfold kvD
    rw [List.map_map]
    refine List.map_congr_left fun x _ => ?_
    show (if (Sum.inl x : Key) = Sum.inl k then ((Sum.inl x : Key), V.bl true) else (Sum.inl x, V.bl true)) = _
    split <;> rfl
  · rw [if_neg (by simpa using h), if_neg h]
    unfold kvD
    rw [List.map_append]; rfl
def putD! (ks : List Int) (k : Int) : Option (List Int) := if ks.length < lim then some (putD ks k) else none
/-! ### rules -/
/-- y in d, y not in d: y a whole number or None -/
def rInD (no : Bool) : R2 := fun x y H Q => ∃ a kvs, y = .ref a ∧ H a = some (.dK kvs) ∧ ((∃ k : Int, x = .int k ∧ Q (.bl ((valV kvs (Sum.inl k)).isSome != no)) H) ∨ (x = .non ∧ Q (.bl no) H))
theorem op_inD {X : Cx} (hu : X.A.units + 1 < cLine) : OpR X (compareOp .In) (rInD false) := by
  intro pins s σ H x y v u Q I rx ry h
  obtain ⟨a, kvs, rfl, ha, h⟩ := h
  cases (show u = Value.ref a from ry)
  rcases h with ⟨k, rfl, q⟩ | ⟨rfl, q⟩
  · refine d_in hu I (DGet.k (k := Sum.inl k) ha) rx fun s3 I3 => ⟨.bl _, H, I3, rfl, ?_⟩
    simpa using q
  · cases (show v = Value.none from rx)
    exact d_inNone I (.inl ha) fun s3 I3 => ⟨.bl false, H, I3, rfl, q⟩
theorem op_notInD {X : Cx} (hu : X.A.units + 1 < cLine) : OpR X (compareOp .NotIn) (rInD true) := by
  intro pins s σ H x y v u Q I rx ry h
  obtain ⟨a, kvs, rfl, ha, h⟩ := h
  cases (show u = Value.ref a from ry)
  rcases h with ⟨k, rfl, q⟩ | ⟨rfl, q⟩
  · refine d_notIn hu I (DGet.k (k := Sum.inl k) ha) rx fun s3 I3 => ⟨.bl _, H, I3, rfl, ?_⟩
    simpa using q
  · cases (show v = Value.none from rx)
    exact d_notInNone I (.inl ha) fun s3 I3 => ⟨.bl true, H, I3, rfl, q⟩
def rLenD : List V → Hp → VK → Prop := fun xs H Q => ∃ a kvs, xs = [V.ref a] ∧ H a = some (.dK kvs) ∧ Q (.int kvs.length) H
theorem call_lenDK {X : Cx} : CallR X (.builtin "len") rLenD := call_lenD
def rSortD : List V → Hp → VK → Prop := fun xs H Q => ∃ (a : Addr) (kvs : List (Key × V)) (ks : List Int), xs = [.ref a] ∧ L2.Rd H a (.dK kvs) ∧ kvs.map (·.1) = ks.map Sum.inl ∧ ks.length < 64 ∧
    ∀ (ys : List Int) (p : Addr), ys.Perm ks → ys.Pairwise (· ≤ ·) → H p = none → Q (.ref p) (upd H p (.lst (ys.map V.int)))
theorem call_sortD {X : Cx} (hc : X.calm = true) : CallR X (.builtin "sorted") rSortD := call_sortedDI hc
section
variable {S Ω : Type} {A : Ow S} {g : S → List Int} {p : S → List Int → S} {v : V} {te ti tv : TE} {σ : L2.St} {F : Hp} {m : M S Int} {mo : M S (Option Int)} {u : TS} {P : Post Ω} {j : Nat}
theorem emb_keys {F H : Hp} {s : S} {c O : Ch} (e : Emb A (oKeys v) g p) (ho : A.o F s c) (W : Wd F H (c ++ O)) : ∃ d c2, v = .ref d ∧ Wd F H ((d, .dK (kvD (g s))) :: (c2 ++ O)) ∧
    ∀ F' ks, Same F F' → ∀ H', Wd F' H' ((d, .dK (kvD ks)) :: (c2 ++ O)) → ∃ c', A.o F' (p s ks) c' ∧ Wd F' H' (c' ++ O) := by
  obtain ⟨c1, c2, pm, ⟨d, e1, rfl⟩, kk⟩ := e.split ho
  refine ⟨d, c2, e1, (W.perm (pm.append_right O)), fun F' ks s' H' W' => ?_⟩
  obtain ⟨c', o', pm'⟩ := kk F' ks [(d, .dK (kvD ks))] s' ⟨d, e1, rfl⟩
  exact ⟨c', o', W'.perm (pm'.append_right O).symm⟩
theorem ev_inD {no : Bool} (he : Ev te σ F A rInt m) (hv : σ[j]? = some (some v)) (e : Emb A (oKeys v) g p) : Ev (tOp (rInD no) te (tVar j)) σ F A rBool (bnd m fun x => gtL g fun d => some (decide (x ∈ d) != no)) := fun s b s' hm F1 H c O sm ho W Q q => by
  obtain ⟨x, s1, h1, hm⟩ := bnd_some hm
  obtain ⟨h2, rfl⟩ := gtL_some hm
  cases h2
  refine he s x s' h1 F1 H c O sm ho W _ fun y F2 H2 c2 sm2 o2 W2 r2 => ⟨v, hv, ?_⟩
  obtain ⟨d, c4, rfl, W4, kk⟩ := emb_keys e o2 W2
  refine ⟨d, _, rfl, W4.hd, .inl ⟨x, r2, ?_⟩⟩
  rw [kvD_has]
  exact q _ F2 H2 c2 sm2 o2 W2 rfl
theorem ev_inDO {no : Bool} (he : Ev te σ F A (rOpt rInt) mo) (hv : σ[j]? = some (some v)) (e : Emb A (oKeys v) g p) : Ev (tOp (rInD no) te (tVar j)) σ F A rBool (bnd mo fun x => gtL g fun d => some ((d.any fun k => decide (x = some k)) != no)) := fun s b s' hm F1 H c O sm ho W Q q => by
  obtain ⟨x, s1, h1, hm⟩ := bnd_some hm
  obtain ⟨h2, rfl⟩ := gtL_some hm
  cases h2
  refine he s x s' h1 F1 H c O sm ho W _ fun y F2 H2 c2 sm2 o2 W2 r2 => ⟨v, hv, ?_⟩
  obtain ⟨d, c4, rfl, W4, kk⟩ := emb_keys e o2 W2
  refine ⟨d, _, rfl, W4.hd, ?_⟩
  cases x with
  | none =>
    refine .inr ⟨r2, ?_⟩
    have h0 : ((g s').any fun k => decide ((none : Option Int) = some k)) = false := by simp
    have := q (.bl no) F2 H2 c2 sm2 o2 W2 (show V.bl no = V.bl _ by rw [h0]; simp)
    exact this
  | some x =>
    refine .inl ⟨x, r2, ?_⟩
    rw [kvD_has]
    refine q _ F2 H2 c2 sm2 o2 W2 (show V.bl _ = V.bl _ from ?_)
    congr 2
    rw [Bool.eq_iff_iff]
    simp
theorem ev_lenD (hv : σ[j]? = some (some v)) (e : Emb A (oKeys v) g p) : Ev (tCB rLenD (tCons (tVar j) tNil)) σ F A rInt (gtL g fun d => some (d.length : Int)) := fun s b s' hm F1 H c O sm ho W Q q => by
  obtain ⟨h2, rfl⟩ := gtL_some hm
  cases h2
  refine ⟨v, hv, ?_⟩
  obtain ⟨d, c4, rfl, W4, kk⟩ := emb_keys e ho W
  refine ⟨d, _, rfl, W4.hd, q _ F1 H c (SameR _) ho W ?_⟩
  show V.int _ = V.int _
  rw [kvD_len]
/-- the keys, rising: fewer than 64, none twice -/
def sortD (ks : List Int) : Option (List Int) := if ks.Nodup ∧ ks.length < 64 then some (srt ks) else none
theorem perm_srt {ks ys : List Int} (hn : ks.Nodup) (hp : ys.Perm ks) (hs : ys.Pairwise (· ≤ ·)) : ys = srt ks := by
  have hy : ys.Nodup := hp.nodup_iff.mpr hn
  have hlt : ys.Pairwise (· < ·) := by
    rw [List.pairwise_iff_getElem] at hs ⊢
    intro i j hi hj hij
    have h1 := hs i j hi hj hij
    have h2 : ys[i] ≠ ys[j] := fun e => by
      have := (List.getElem_inj hy).mp e
      omega
    omega
  exact rises_same hlt (srt_rises ks) fun z => by rw [mem_srt]; exact hp.mem_iff
theorem eo_sortD (hv : σ[j]? = some (some v)) (e : Emb A (oKeys v) g p) : EvO (tCB rSortD (tCons (tVar j) tNil)) σ F A (oLst rInt) (gtL g sortD) := fun s b s' hm F1 H c O sm ho W Q q => by
  obtain ⟨h2, rfl⟩ := gtL_some hm
  unfold sortD at h2
  split at h2
  · rename_i hn
    cases h2
    refine ⟨v, hv, ?_⟩
    obtain ⟨d, c4, rfl, W4, kk⟩ := emb_keys e ho W
    refine ⟨d, kvD (g s'), g s', rfl, .inl W4.hd, by show (kvD (g s')).map (·.1) = _; unfold kvD; rw [List.map_map]; rfl, hn.2, fun ys pa hp hs np => ?_⟩
    cases perm_srt hn.1 hp hs
    refine q (.ref pa) F1 _ c [(pa, .lst ((srt (g s')).map V.int))] (SameR _) ho ⟨pa, _, rfl, rfl, ?_⟩ (W.newO np)
    generalize srt (g s') = zs
    induction zs with
    | nil => exact .nil
    | cons z zs ih => exact .cons rfl ih
  · cases h2
/-- d[k] = True -/
theorem b_setD {f : S → Option Ω} (hv : σ[j]? = some (some v)) (e : Emb A (oKeys v) g p) (hi : Ev ti σ F A rInt m) (kk0 : B u σ F A P f) : B (tSeq (tAsg (tC (.bl true)) (gSub (tVar j) ti rSetD)) u) σ F A P (bnd m fun x => bnd (upL g p fun d => putD! d x) fun _ => f) := fun s w' hm F1 H c O sm ho W D q => by
  obtain ⟨x, s2, h2, hm⟩ := bnd_some hm
  obtain ⟨_, s3, h3, hm⟩ := bnd_some hm
  obtain ⟨xs', h3a, rfl⟩ := upL_some h3
  unfold putD! at h3a
  split at h3a
  · rename_i hl
    cases h3a
    refine ⟨v, hv, ?_⟩
    refine hi s x s2 h2 F1 H c O sm ho W _ fun z F3 H3 c3 sm3 o3 W3 r3 => ?_
    obtain ⟨d, c4, rfl, W4, kk⟩ := emb_keys e o3 W3
    have hlim : (1000000 : Nat) = lim := rfl
    refine ⟨d, upd H3 d (.dK (putK (kvD (g s2)) (Sum.inl x) (V.bl true))), rfl, ?_, ?_⟩
    · rw [show z = kV (Sum.inl x) from r3]
      exact DPut.k W4.hd (by rw [kvD_len, sizeLine_eq]; omega)
    · rw [kvD_put]
      obtain ⟨c5, o5, W5⟩ := kk F3 (putD (g s2) x) (SameR _) _ W4.set
      exact kk0 _ w' hm F3 _ c5 O (sm.trans sm3) o5 W5 D (P.mono sm3 q)
  · cases h3a
/-- {k: True} -/
theorem eo_dispD (he : Ev te σ F A rInt m) : EvO (tDisp [(te, tC (.bl true))]) σ F A oKeys (bnd m fun x => ret [x]) := fun s b s' hm F1 H c O sm ho W Q q pa np => by
  obtain ⟨x, s1, h1, hm⟩ := bnd_some hm
  obtain ⟨rfl, rfl⟩ := ret_some hm
  have W0 : Wd F1 (upd H pa (.dK [])) (c ++ ((pa, .dK []) :: O)) := (W.newO np).perm (perm_front _ _ _)
  refine he s x _ h1 F1 _ c _ sm ho W0 _ fun vx F2 H2 c2 sm2 o2 W2 r2 => ?_
  have W4 := W2.perm (perm_front (pa, .dK []) c2 O).symm
  refine ⟨W4.hd, [(Sum.inl x, .bl true)], by rw [show vx = V.int x from r2]; rfl, by show 1 ≤ 15; omega, ?_⟩
  exact q (.ref pa) F2 _ c2 [(pa, .dK (kvD [x]))] sm2 o2 ⟨pa, rfl, rfl⟩ W4.set
/-- return d, d owned -/
theorem b_retoO {S' β : Type} {A' : Ow S'} {B' : V → Ow β} {g' : S → β} {π : S → S'} (h : Rmv A A' (B' v) g' π) (hv : σ[j]? = some (some v)) : B (tSeq (tRet (tVar j)) u) σ F A (pRo emp B') (fun s => some (g' s, ())) := fun s w hm F1 H c O sm ho W D q => by
  cases hm
  refine ⟨v, hv, ?_⟩
  obtain ⟨c1, c2, pm, hb, _⟩ := h.sp ho
  refine q v F1 H [] c1 (SameR _) rfl hb ((W.perm (pm.append_right O)).sublist ?_)
  rw [List.nil_append, List.append_assoc]
  exact List.Sublist.append (List.Sublist.refl c1) (List.sublist_append_right c2 O)
end
theorem kop_inD {X : Cx} (hu : X.A.units + 64 < cLine) : OpR X (compareOp .In) (rInD false) := op_inD (by omega)
theorem kop_notInD {X : Cx} (hu : X.A.units + 64 < cLine) : OpR X (compareOp .NotIn) (rInD true) := op_notInD (by omega)
theorem kset_D {X : Cx} (hu : X.A.units + 64 < cLine) : PSet X rSetD := set_dict (by omega)
theorem kpe_dispD {X : Cx} {k v : Expr} {tk tv : TE} {pos : Pos} (hk : PE X k tk) (hv : PE X v tv) : PE X (.Dict [some k] [v] pos) (tDisp [(tk, tv)]) := pe_disp (pps_cons hk hv pps_nil) rfl rfl (by simp) (by simp)
section
variable {S : Type} {K : PySem.W.Frag} {A : Ow S} {g : S → List Int} {p : S → List Int → S} {v : V} {te : TE} {σ : L2.St} {F : Hp} {m : M S Int} {j : Nat}
/-- y in xs, y not in xs: xs an owned list of whole numbers -/
theorem ev_inOI {no : Bool} (he : Ev te σ F A rInt m) (hv : σ[j]? = some (some v)) (e : Emb A (oLst rInt v) g p) : Ev (tOp (rIn K no) te (tVar j)) σ F A rBool (bnd m fun x => gtL g fun d => some ((d.any fun b => decide (b = x)) != no)) := fun s b s' hm F1 H c O sm ho W Q q => by
  obtain ⟨x, s1, h1, hm⟩ := bnd_some hm
  obtain ⟨h2, rfl⟩ := gtL_some hm
  cases h2
  refine he s x s' h1 F1 H c O sm ho W _ fun y F2 H2 c2 sm2 o2 W2 r2 => ⟨v, hv, ?_⟩
  obtain ⟨l, vs, c3, rfl, rp, W3, kk⟩ := emb_list e o2 W2
  have e2 : vs = (g s').map V.int := vs_int rp
  have hf : vs.all flatV = true := by rw [e2, List.all_map]; simp [flatV, Function.comp]
  have hy : y = .int x := r2
  have hin : inV y vs = ((g s').any fun b => decide (b = x)) := by
    rw [e2, hy]
    unfold inV
    rw [List.any_map]
    congr 1
  refine ⟨l, vs, rfl, .inl (SqL.of W3.hd), by rw [hy]; rfl, hf, q _ F2 H2 c2 sm2 o2 W2 ?_⟩
  show V.bl _ = V.bl _
  rw [hin]
  cases no <;> simp
end
section
variable {S α β : Type} {K : PySem.W.Frag} {W : WX} {R : Rl α} {U : Rl β} {A : Ow S} {te : TE} {σ : L2.St} {F : Hp}
/-- a new list made of a raising thing -/
theorem evx_cbL {rc : List V → Hp → VK → Prop} {f : α → List β} {mx : M S (α ⊕ Str)} (hr : VLo rc (arOne R) (oLst U) (fun x => some (f x))) (h : EvX K W te σ F A R mx) : EvX K W (tCB rc (tCons te tNil)) σ F A (rLst U) (bnd mx fun w => ret (Sum.map f id w)) := fun s b s' hm F1 H c O sm ho W1 Q q => by
  obtain ⟨x, s1, h1, hm⟩ := bnd_some hm
  obtain ⟨rfl, rfl⟩ := ret_some hm
  refine h s x _ h1 F1 H c O sm ho W1 _ ?_
  cases x with
  | inr n => exact q
  | inl x =>
    exact fun v F2 H2 c2 s2 o2 W2 r2 => ev_frz (σ := σ) (eo_cb hr (ea_one (te := fun _ H Q => Q v H) (m := fun s => some (x, s)) (fun s b s' e F1 H c O sm ho W Q q => by
      cases e; exact q v _ _ _ (SameR _) ho W (R.mono sm r2)))) _ _ _ rfl F2 H2 c2 O (SameR _) o2 W2 Q fun v' F' H' c' s' o' W' r' => q v' F' H' c' (s2.trans s') o' W' r'
end
theorem cvp_inl {α β : Type} {R : Rl α} {R2 : Rl β} : CvP R (rSum R R2) (fun x => some (.inl x)) := fun F v x y r e => by cases e; exact r
theorem cvp_inr {α β : Type} {R : Rl α} {R2 : Rl β} : CvP R2 (rSum R R2) (fun x => some (.inr x)) := fun F v x y r e => by cases e; exact r
end T

/-! T38: tuple(range(n)). -/
namespace T
open PySem L2 PySem.Spec PyProof.Rows
section
variable {S : Type} {A : Ow S} {te : TE} {σ : L2.St} {F : Hp} {m : M S Int}
theorem ev_tupRg (he : Ev te σ F A rInt m) : Ev (tTupRg (tRg1 te)) σ F A (rTup rInt) (bnd m fun n => lft (rngS n)) := fun s b s' hm F1 H c O sm ho W Q q => by
  obtain ⟨n, s1, h1, hm⟩ := bnd_some hm
  obtain ⟨h2, rfl⟩ := lft_some hm
  unfold rngS at h2
  split at h2
  · rename_i hn
    cases h2
    refine he s n _ h1 F1 H c O sm ho W _ fun v F2 H2 c2 s2 o2 W2 r2 => ⟨n, r2, ⟨by omega, by omega, by omega, by omega, by omega⟩, fun l nl => ?_⟩
    refine q (.ref l) _ _ c2 (s2.trans (W2.sameF nl)) (A.mono (W2.sameF nl) o2) (W2.newF nl) ⟨l, _, rfl, upd_same, ?_⟩
    unfold rgV
    rw [Int.sub_zero]
    exact paired_rgL _ 0
  · cases h2
end
end T

/-! T39: an owned list beside a value: ==, !=. -/
namespace T
open PySem L2 PySem.Spec PyProof.Rows
section
variable {S α β : Type} {K : PySem.W.Frag} {R : Rl α} {R' : Rl β} {A : Ow S} {g : S → List α} {p : S → List α → S} {v : V} {te : TE} {σ : L2.St} {F : Hp} {m : M S β} {j : Nat}
theorem dp_own {F H : Hp} {s : S} {c O : Ch} (D : RD R) (e : Emb A (oLst R v) g p) (ho : A.o F s c) (W : Wd F H (c ++ O)) : Dp K H v (.list ((g s).map D.d)) := by
  obtain ⟨l, vs, c3, rfl, rp, W3, _⟩ := emb_list e ho W
  exact .lst (SqL.of W3.hd) (dp_all D.d (fun _ _ r => Dp.mono W.sub (D.dp r)) rp)
theorem ev_neDO (D : RD R) (E : RD R') (hv : σ[j]? = some (some v)) (e : Emb A (oLst R v) g p) (he : Ev te σ F A R' m) : Ev (tOp (rNeD K) (tVar j) te) σ F A rBool (bnd m fun y => gtL g fun xs => neD (.list (xs.map D.d)) (E.d y)) := fun s b s' hm F1 H c O sm ho W Q q => by
  obtain ⟨y, s1, h1, hm⟩ := bnd_some hm
  obtain ⟨h2, rfl⟩ := gtL_some hm
  refine ⟨v, hv, he s y s' h1 F1 H c O sm ho W _ fun vy F2 H2 c2 sm2 o2 W2 r2 => ?_⟩
  simp only [neD] at h2; split at h2
  · rename_i h; cases h2
    exact ⟨_, _, dp_own D e o2 W2, Dp.mono W2.sub (E.dp r2), h.1, h.2, q _ F2 H2 c2 sm2 o2 W2 rfl⟩
  · cases h2
theorem ev_eqDO (D : RD R) (E : RD R') (hv : σ[j]? = some (some v)) (e : Emb A (oLst R v) g p) (he : Ev te σ F A R' m) : Ev (tOp (rEqD K) (tVar j) te) σ F A rBool (bnd m fun y => gtL g fun xs => eqD (.list (xs.map D.d)) (E.d y)) := fun s b s' hm F1 H c O sm ho W Q q => by
  obtain ⟨y, s1, h1, hm⟩ := bnd_some hm
  obtain ⟨h2, rfl⟩ := gtL_some hm
  refine ⟨v, hv, he s y s' h1 F1 H c O sm ho W _ fun vy F2 H2 c2 sm2 o2 W2 r2 => ?_⟩
  simp only [eqD] at h2; split at h2
  · rename_i h; cases h2
    exact ⟨_, _, dp_own D e o2 W2, Dp.mono W2.sub (E.dp r2), h.1, h.2, q _ F2 H2 c2 sm2 o2 W2 rfl⟩
  · cases h2
end
section
variable {S α : Type} {K : PySem.W.Frag} {R : Rl α} {A : Ow S} {g : S → List α} {p : S → List α → S} {v : V} {te : TE} {σ : L2.St} {F : Hp} {m : M S Int} {j : Nat}
/-- xs.pop(i) -/
def popI (xs : List α) (i : Int) : Option (α × List α) := if -(2 ^ 63) ≤ i ∧ i < 2 ^ 63 then (PySem.seqIndex? i xs.length).bind fun k => (xs[k]?).map fun x => (x, xs.eraseIdx k) else none
def popS (g : S → List α) (p : S → List α → S) (i : Int) : M S α := fun s => (popI (g s) i).map fun q => (q.1, p s q.2)
theorem paired_erase {γ δ : Type} {Q : γ → δ → Prop} : ∀ {vs : List γ} {xs : List δ}, Paired Q vs xs → ∀ k, Paired Q (vs.eraseIdx k) (xs.eraseIdx k)
  | _, _, .nil, _ => .nil
  | _, _, .cons r t, 0 => t
  | _, _, .cons r t, k + 1 => .cons r (paired_erase t k)
theorem ev_pop (hv : σ[j]? = some (some v)) (e : Emb A (oLst R v) g p) (he : Ev te σ F A rInt m) : Ev (tBM K "list" rPopAt (tVar j) (tCons te tNil)) σ F A R (bnd m (popS g p)) := fun s b s' hm F1 H c O sm ho W Q q => by
  obtain ⟨i, s1, h1, hm⟩ := bnd_some hm
  unfold popS at hm
  obtain ⟨⟨y, ys⟩, h2, h3⟩ := Option.map_eq_some_iff.mp hm
  cases h3
  unfold popI at h2
  split at h2
  · rename_i hi
    obtain ⟨k, hk, h2⟩ := Option.bind_eq_some_iff.mp h2
    obtain ⟨x, hx, h3⟩ := Option.map_eq_some_iff.mp h2
    cases h3
    refine ⟨v, hv, ?_⟩
    obtain ⟨l0, vs0, c0, e0, _, W0, _⟩ := emb_list e ho W
    refine ⟨by rw [e0]; exact Or.inl ⟨rfl, vs0, SqL.of W0.hd⟩, ?_⟩
    refine he s i s1 h1 F1 H c O sm ho W _ fun z F2 H2 c2 sm2 o2 W2 r2 => ?_
    obtain ⟨l, vs, c3, rfl, rp, W3, kk⟩ := emb_list e o2 W2
    obtain ⟨u, hu, ru⟩ := paired_get' rp hx
    obtain ⟨c4, o4, W4⟩ := kk F2 _ (vs.eraseIdx k) (SameR _) (paired_erase rp k) _ W3.set
    refine ⟨l, vs, i, k, u, rfl, by rw [show z = .int i from r2], W3.hd, hi.1, hi.2, by rw [paired_len rp]; exact hk, hu, ?_⟩
    exact q u F2 _ c4 sm2 o4 W4 ru
  · cases h2
end
end T

/-! T40: methods that may raise; a Run's pour, poured, tips that may raise, and its book. -/
namespace L2
open PySem PySem.Spec PyProof.Rows
/-- o.m(..), what is wanted of an exception told by the slots -/
def tMethX (C : Addr) (m : Str) (sp : Sp) (E : St → XK) (ta : TE) (t : TA) : TE := fun σ H Q => ta σ H fun x H1 => ∃ a dx fs, x = .ref a ∧ H1 a = some (.ins C dx fs) ∧ fs.lookup m = none ∧ t σ H1 fun vs H2 => sp (x :: vs) H2 Q (E σ)
section
variable {X : Cx} {CX : CXT} {k : Nat} {f C : Addr} {fd : FuncData} {ps : List Str} {sp : Sp} {E : St → XK} {m : Str} {pos apos : Pos} {e o : Expr} {es : List Expr} {ta : TE} {t : TA}
theorem pe_methX {pl : Sem Bool} (he : PE X o ta) (c : Cls X.K C) (hm : Meth X.K C m f) (F : FnOk X.prog X.w X.K X.mg X.base CX k f fd ps sp) (hr : Room k X.A) (hb : Binds X.K fd ps []) (hx : ∀ σ, PassesAt CX X σ (E σ)) (ha : PA X (e :: es) t)
    (hst : starEach (e :: es) X.env = (false, eval e X.env) :: starEach es X.env := by rfl) (hpl : (backTo pos (starEach es X.env)).any (·.1) = false := by rfl)
    (ht : eval (.Call (.Attribute o m apos) (e :: es) [] pos) X.env = (do
      let ov ← eval o X.env
      standAt apos.atName
      let (f, first) ← holding [ov] (getMethod ov m pl)
      callWith pos f first (backTo pos (starEach (e :: es) X.env)) (backToKw pos (keywordEach [] X.env))) := by rfl) :
    PE X (.Call (.Attribute o m apos) (e :: es) [] pos) (tMethX C m sp E ta t) := by
  refine ⟨fun pins s σ H Q I h => ?_⟩
  refine PySem.W.methodCall_KW (pl := pl) (thn (he.run pins s σ H _ I h) fun u s1 ⟨x, H1, I1, rx, a, dx, fs, ex, ea, l, q⟩ => ?_) ht
  subst ex
  obtain rfl : u = Value.ref a := rx
  refine getmeth_ok I1 ea c hm l ?_
  refine PySem.W.callWith_K (first := [.ref a]) (h₀ := X.base) I.ok.mod.kin hm.kp (thn (ha.run pos pins s1 σ H1 _ I1 q) fun us s2 ⟨vs, H2, I2, r, q2⟩ => ⟨I2.kIn, ?_⟩) hst hpl
  exact run_fnS (us := .ref a :: us) (vs := .ref a :: vs) F hr hb (hx σ) I2 (.cons rfl r) q2
theorem pe_methX0 {pl : Sem Bool} (he : PE X o ta) (c : Cls X.K C) (hm : Meth X.K C m f) (F : FnOk X.prog X.w X.K X.mg X.base CX k f fd ps sp) (hr : Room k X.A) (hb : Binds X.K fd ps []) (hx : ∀ σ, PassesAt CX X σ (E σ))
    (ht : eval (.Call (.Attribute o m apos) [] [] pos) X.env = (do
      let ov ← eval o X.env
      standAt apos.atName
      let (f, first) ← holding [ov] (getMethod ov m pl)
      callWith pos f first (backTo pos (starEach [] X.env)) (backToKw pos (keywordEach [] X.env))) := by rfl) :
    PE X (.Call (.Attribute o m apos) [] [] pos) (tMethX C m sp E ta tNil) := by
  refine ⟨fun pins s σ H Q I h => ?_⟩
  refine PySem.W.methodCall_KW (pl := pl) (thn (he.run pins s σ H _ I h) fun u s1 ⟨x, H1, I1, rx, a, dx, fs, ex, ea, l, q⟩ => ?_) ht
  subst ex
  obtain rfl : u = Value.ref a := rx
  refine getmeth_ok I1 ea c hm l ?_
  exact PySem.W.callWith_K0 (first := [.ref a]) I1.kIn hm.kp (run_fnS (us := [.ref a]) (vs := [.ref a]) F hr hb (hx σ) I1 (.cons rfl .nil) q)
end
end L2
namespace T
open PySem L2
section
variable {X : Cx} {W : WX} {k j : Nat} {m : Str} {C : Addr} {ps : List Str} {sp : Sp} {pos apos : Pos} {e o : Expr} {es : List Expr} {ta : TE} {t : TA}
theorem pe_knMS {pl : Sem Bool} (ho : PE X o ta) (h : KnM X.prog X.w X.K X.mg X.base (L2.CX X.prog X.w) j m C ps sp) (tk : Takes X W) (hr : Room k X.A) (hj : j ≤ k) (ha : PA X (e :: es) t)
    (hst : starEach (e :: es) X.env = (false, eval e X.env) :: starEach es X.env := by rfl) (hpl : (backTo pos (starEach es X.env)).any (·.1) = false := by rfl)
    (ht : eval (.Call (.Attribute o m apos) (e :: es) [] pos) X.env = (do
      let ov ← eval o X.env
      standAt apos.atName
      let (f, first) ← holding [ov] (getMethod ov m pl)
      callWith pos f first (backTo pos (starEach (e :: es) X.env)) (backToKw pos (keywordEach [] X.env))) := by rfl) :
    PE X (.Call (.Attribute o m apos) (e :: es) [] pos) (tMethX C m sp (WE W) ta t) := by
  obtain ⟨f, fd, h1, h2, h3⟩ := h.ex
  exact pe_methX ho h.cl h1 h3 (hr.mono hj) h2 (fun σ => passAt tk σ) ha hst hpl ht
theorem pe_knMS0 {pl : Sem Bool} (ho : PE X o ta) (h : KnM X.prog X.w X.K X.mg X.base (L2.CX X.prog X.w) j m C ps sp) (tk : Takes X W) (hr : Room k X.A) (hj : j ≤ k)
    (ht : eval (.Call (.Attribute o m apos) [] [] pos) X.env = (do
      let ov ← eval o X.env
      standAt apos.atName
      let (f, first) ← holding [ov] (getMethod ov m pl)
      callWith pos f first (backTo pos (starEach [] X.env)) (backToKw pos (keywordEach [] X.env))) := by rfl) :
    PE X (.Call (.Attribute o m apos) [] [] pos) (tMethX C m sp (WE W) ta tNil) := by
  obtain ⟨f, fd, h1, h2, h3⟩ := h.ex
  exact pe_methX0 ho h.cl h1 h3 (hr.mono hj) h2 (fun σ => passAt tk σ) ht
theorem pe_knML {pl : Sem Bool} (ho : PE X o ta) (h : KnM X.prog X.w X.K X.mg X.base (L2.CX X.prog X.w) j m C ps sp) (hr : Room k X.A) (hj : j ≤ k) (ha : PA X (e :: es) t)
    (hst : starEach (e :: es) X.env = (false, eval e X.env) :: starEach es X.env := by rfl) (hpl : (backTo pos (starEach es X.env)).any (·.1) = false := by rfl)
    (ht : eval (.Call (.Attribute o m apos) (e :: es) [] pos) X.env = (do
      let ov ← eval o X.env
      standAt apos.atName
      let (f, first) ← holding [ov] (getMethod ov m pl)
      callWith pos f first (backTo pos (starEach (e :: es) X.env)) (backToKw pos (keywordEach [] X.env))) := by rfl) :
    PE X (.Call (.Attribute o m apos) (e :: es) [] pos) (tMeth C m sp [] E0 ta t) := by
  obtain ⟨f, fd, h1, h2, h3⟩ := h.ex
  exact pe_meth ho h.cl h1 h3 (hr.mono hj) h2 .nil passL ha hst hpl ht
theorem pe_knML0 {pl : Sem Bool} (ho : PE X o ta) (h : KnM X.prog X.w X.K X.mg X.base (L2.CX X.prog X.w) j m C ps sp) (hr : Room k X.A) (hj : j ≤ k)
    (ht : eval (.Call (.Attribute o m apos) [] [] pos) X.env = (do
      let ov ← eval o X.env
      standAt apos.atName
      let (f, first) ← holding [ov] (getMethod ov m pl)
      callWith pos f first (backTo pos (starEach [] X.env)) (backToKw pos (keywordEach [] X.env))) := by rfl) :
    PE X (.Call (.Attribute o m apos) [] [] pos) (tMeth C m sp [] E0 ta tNil) := by
  obtain ⟨f, fd, h1, h2, h3⟩ := h.ex
  exact pe_meth0 ho h.cl h1 h3 (hr.mono hj) h2 .nil passL ht
end
section
variable {S S1 T' α β γ Ω ι : Type} {R : Rl α} {U : Rl γ} {K : PySem.W.Frag} {C : Addr} {W : WX} {E : XK} {σ : L2.St} {F : Hp} {A : Ow S} {te te0 ti ta : TE} {u : TS} {P : Post Ω} {v w vh vt vr ve : V} {i j k : Nat}
/-! calls of methods that may raise, of an owned instance -/
theorem evx_methS {T γ : Type} {mn : Str} {X : Ar α} {Bf : V → Ow T} {U : Rl γ} {f : α → M T (γ ⊕ Str)} {g : S → T} {p : S → T → S} {ar : TA} {ma : M S α} (hh : InsHd Bf C mn) (hv : σ[j]? = some (some v)) (e : Emb A (Bf v) g p) (h : EvA ar σ F A X ma) :
    EvX K W (tMethX C mn (spSX K (fun v => arC (rV v) X) Bf U (fun x => f x.2)) (WE W) (tVar j) ar) σ F A U (bnd ma fun x => zm g p (f x)) := fun s b s' hm F1 H c O sm ho W1 Q q => by
  obtain ⟨xs, s1, h1, hm⟩ := bnd_some hm
  obtain ⟨t, h2, rfl⟩ := zm_some hm
  obtain ⟨c3, c4, pm, ob, k⟩ := e.split ho
  obtain ⟨p0, dx, fs, rest, rfl, rfl, hl⟩ := hh.hd ob
  have W0 : Wd F1 H ((p0, .ins C dx fs) :: (rest ++ (c4 ++ O))) := by
    refine W1.perm ((pm.append_right O).trans ?_)
    simp
  refine ⟨_, hv, p0, dx, fs, rfl, W0.hd, hl, ?_⟩
  refine h s _ _ h1 F1 H c O sm ho W1 _ fun vs F2 H2 c2 s2 o2 W2 r2 => ?_
  obtain ⟨c3', c4', pm', ob', k'⟩ := e.split o2
  refine ⟨.ref p0, F2, c4' ++ O, c3', ((), xs), g s1, b, t, ⟨_, _, rfl, rfl, r2⟩, ob', W2.perm ?_, h2, ?_⟩
  · rw [← List.append_assoc]; exact pm'.append_right O
  · cases b with
    | inl b =>
      intro v F3 H3 c5 s3 o3 W3 r3
      obtain ⟨c', oc, pm2⟩ := k' F3 t c5 s3 o3
      refine q v F3 H3 c' (s2.trans s3) oc (W3.perm ?_) r3
      rw [← List.append_assoc]; exact (pm2.append_right O).symm
    | inr n =>
      intro F3 H3 c5 s3 o3 W3
      obtain ⟨c', oc, pm2⟩ := k' F3 t c5 s3 o3
      refine q F3 H3 c' (s2.trans s3) oc (W3.perm ?_)
      rw [← List.append_assoc]; exact (pm2.append_right O).symm
theorem ev_methSX {T γ : Type} {mn : Str} {X : Ar α} {Bf : V → Ow T} {U : Rl γ} {f : α → M T (γ ⊕ Str)} {g : S → T} {p : S → T → S} {ar : TA} {ma : M S α} (hh : InsHd Bf C mn) (hv : σ[j]? = some (some v)) (e : Emb A (Bf v) g p) (h : EvA ar σ F A X ma) :
    Ev (tMeth C mn (spSX K (fun v => arC (rV v) X) Bf U (fun x => f x.2)) [] E (tVar j) ar) σ F A U (bnd ma fun x => zm g p (okM (f x))) := fun s b s' hm F1 H c O sm ho W1 Q q => by
  obtain ⟨xs, s1, h1, hm⟩ := bnd_some hm
  obtain ⟨t, h2, rfl⟩ := zm_some hm
  obtain ⟨c3, c4, pm, ob, k⟩ := e.split ho
  obtain ⟨p0, dx, fs, rest, rfl, rfl, hl⟩ := hh.hd ob
  have W0 : Wd F1 H ((p0, .ins C dx fs) :: (rest ++ (c4 ++ O))) := by
    refine W1.perm ((pm.append_right O).trans ?_)
    simp
  refine ⟨_, hv, p0, dx, fs, rfl, W0.hd, hl, ?_⟩
  refine h s _ _ h1 F1 H c O sm ho W1 _ fun vs F2 H2 c2 s2 o2 W2 r2 => ?_
  obtain ⟨c3', c4', pm', ob', k'⟩ := e.split o2
  rw [List.append_nil]
  refine ⟨.ref p0, F2, c4' ++ O, c3', ((), xs), g s1, .inl b, t, ⟨_, _, rfl, rfl, r2⟩, ob', W2.perm ?_, okM_some h2, fun v F3 H3 c5 s3 o3 W3 r3 => ?_⟩
  · rw [← List.append_assoc]; exact pm'.append_right O
  · obtain ⟨c', oc, pm2⟩ := k' F3 t c5 s3 o3
    refine q v F3 H3 c' (s2.trans s3) oc (W3.perm ?_) r3
    rw [← List.append_assoc]; exact (pm2.append_right O).symm
theorem evx_meth0S {T γ : Type} {mn : Str} {Bf : V → Ow T} {U : Rl γ} {f : M T (γ ⊕ Str)} {g : S → T} {p : S → T → S} (hh : InsHd Bf C mn) (hv : σ[j]? = some (some v)) (e : Emb A (Bf v) g p) :
    EvX K W (tMethX C mn (spSX K (fun v => arOne (rV v)) Bf U (fun _ => f)) (WE W) (tVar j) tNil) σ F A U (zm g p f) := fun s b s' hm F1 H c O sm ho W1 Q q => by
  obtain ⟨t, h2, rfl⟩ := zm_some hm
  obtain ⟨c3, c4, pm, ob, k⟩ := e.split ho
  obtain ⟨p0, dx, fs, rest, rfl, rfl, hl⟩ := hh.hd ob
  have W0 : Wd F1 H ((p0, .ins C dx fs) :: (rest ++ (c4 ++ O))) := by
    refine W1.perm ((pm.append_right O).trans ?_)
    simp
  refine ⟨_, hv, p0, dx, fs, rfl, W0.hd, hl, ?_⟩
  refine ⟨.ref p0, F1, c4 ++ O, (p0, .ins C dx fs) :: rest, (), g s, b, t, ⟨_, rfl, rfl⟩, ob, W1.perm ?_, h2, ?_⟩
  · rw [← List.append_assoc]; exact pm.append_right O
  · cases b with
    | inl b =>
      intro v F3 H3 c5 s3 o3 W3 r3
      obtain ⟨c', oc, pm2⟩ := k F3 t c5 s3 o3
      refine q v F3 H3 c' s3 oc (W3.perm ?_) r3
      rw [← List.append_assoc]; exact (pm2.append_right O).symm
    | inr n =>
      intro F3 H3 c5 s3 o3 W3
      obtain ⟨c', oc, pm2⟩ := k F3 t c5 s3 o3
      refine q F3 H3 c' s3 oc (W3.perm ?_)
      rw [← List.append_assoc]; exact (pm2.append_right O).symm
theorem ev_meth0SX {T γ : Type} {mn : Str} {Bf : V → Ow T} {U : Rl γ} {f : M T (γ ⊕ Str)} {g : S → T} {p : S → T → S} (hh : InsHd Bf C mn) (hv : σ[j]? = some (some v)) (e : Emb A (Bf v) g p) :
    Ev (tMeth C mn (spSX K (fun v => arOne (rV v)) Bf U (fun _ => f)) [] E (tVar j) tNil) σ F A U (zm g p (okM f)) := fun s b s' hm F1 H c O sm ho W1 Q q => by
  obtain ⟨t, h2, rfl⟩ := zm_some hm
  obtain ⟨c3, c4, pm, ob, k⟩ := e.split ho
  obtain ⟨p0, dx, fs, rest, rfl, rfl, hl⟩ := hh.hd ob
  have W0 : Wd F1 H ((p0, .ins C dx fs) :: (rest ++ (c4 ++ O))) := by
    refine W1.perm ((pm.append_right O).trans ?_)
    simp
  refine ⟨_, hv, p0, dx, fs, rfl, W0.hd, hl, ?_⟩
  refine ⟨.ref p0, F1, c4 ++ O, (p0, .ins C dx fs) :: rest, (), g s, .inl b, t, ⟨_, rfl, rfl⟩, ob, W1.perm ?_, okM_some h2, fun v F3 H3 c5 s3 o3 W3 r3 => ?_⟩
  · rw [← List.append_assoc]; exact pm.append_right O
  · obtain ⟨c', oc, pm2⟩ := k F3 t c5 s3 o3
    refine q v F3 H3 c' s3 oc (W3.perm ?_) r3
    rw [← List.append_assoc]; exact (pm2.append_right O).symm
/-! a Run's methods that may raise -/
abbrev spRun0X {γ : Type} (K : PySem.W.Frag) (C : Addr) (U : Rl γ) (f : M RunS (γ ⊕ Str)) : Sp := spSX K (fun v => arOne (rV v)) (oRun C) U (fun _ => f)
abbrev spRun1X {γ : Type} (K : PySem.W.Frag) (C : Addr) (U : Rl γ) (f : Int → M RunS (γ ⊕ Str)) : Sp := spSX K (fun v => arC (rV v) (arOne rInt)) (oRun C) U (fun x => f x.2)
abbrev spRun2X {γ : Type} (K : PySem.W.Frag) (C : Addr) (U : Rl γ) (f : Int → Int → M RunS (γ ⊕ Str)) : Sp := spSX K (fun v => arC (rV v) (arC rInt (arOne rInt))) (oRun C) U (fun x => f x.2.1 x.2.2)
abbrev spNVX (K : PySem.W.Frag) (nv : Net → Int → Option (Unit ⊕ Str)) : Sp := spPX K (arC rNet (arOne rInt)) rNone (fun x => nv x.1 x.2)
def mNVX (nv : Net → Int → Option (Unit ⊕ Str)) (x : Int) : M RunS (Unit ⊕ Str) := bnd (bnd (gtL (fun s => s.1.1.1.1) fun s => some s.1) fun a => bnd (ret x) fun b => ret (a, b)) fun a => lft (nv a.1 a.2)
abbrev tNVX (K : PySem.W.Frag) (W : WX) (nv : Net → Int → Option (Unit ⊕ Str)) : TS := tDrop (tCallS (spNVX K nv) (WE W) (tCons (tFld K (tVar 0) "net") (tCons (tVar 1) tNil)))
theorem evx_open {m : M RunS (α ⊕ Str)} (h : ∀ vh vt vr ve, EvX K W te σ F (oParts C v vh vt vr ve) R m) : EvX K W te σ F (oRun C v) R m := fun s b s' hm F1 H c O sm ⟨vh, vt, vr, ve, ho⟩ W1 Q q => h vh vt vr ve s b s' hm F1 H c O sm ho W1 Q (by
  cases b with
  | inl b => exact fun z F2 H2 c2 s2 o2 => q z F2 H2 c2 s2 ⟨vh, vt, vr, ve, o2⟩
  | inr n => exact fun F2 H2 c2 s2 o2 => q F2 H2 c2 s2 ⟨vh, vt, vr, ve, o2⟩)
theorem evx_NV {nv : Net → Int → Option (Unit ⊕ Str)} (T : RunT K C) (h0 : σ[0]? = some (some v)) (h1 : σ[1]? = some (some w)) {x : Int} (r : rInt.r F w x) : EvX K W (tCallS (spNVX K nv) (WE W) (tCons (tFld K (tVar 0) "net") (tCons (tVar 1) tNil))) σ F (oRun C v) rNone (mNVX nv x) :=
  evx_open fun vh vt vr ve => evx_callP (ea_cons (ev_net T (rd_var h0) eC) (ea_one (ev_var r h1)))
def mRunPouredX (nv : Net → Int → Option (Unit ⊕ Str)) (x : Int) : M RunS (Int ⊕ Str) := bndX (fun n s => (.inr n, s)) (mNVX nv x) fun _ => bnd (bnd (ret x) fun i => gtL (fun s => s.1.1.1.2) fun xs => atI xs i) fun x s => some (.inl x, s)
theorem run_pouredX {nv : Net → Int → Option (Unit ⊕ Str)} (T : RunT K C) {x : Int} (r : rInt.r F w x) : B (tSeq (tNVX K (WD E) nv) (tSeq (tRet (tOp (rIxL K) (tFld K (tVar 0) "hand") (tVar 1))) tNext)) [some v, some w] F (oRun C v) (pRtX K E (oRun C v) rInt) (mRunPouredX nv x) :=
  b_exprX (fun _ _ => rz_rt pr_id) (evx_NV T rfl rfl r) fun _ F' s' => b_open fun vh vt vr ve => b_retX pr_run (ev_ixR (rd_hand T (rd_var rfl) eC) eH (ev_var (rInt.mono s' r) rfl))
def mRunTipsX (nv : Net → Int → Option (Unit ⊕ Str)) (x : Int) : M RunS (List Int ⊕ Str) := bndX (fun n s => (.inr n, s)) (mNVX nv x) fun _ => bnd (bnd (ret x) fun i => gtL (fun s => s.1.1.2) fun xs => atI xs i) fun x s => some (.inl x, s)
theorem run_tipsX {nv : Net → Int → Option (Unit ⊕ Str)} (T : RunT K C) {x : Int} (r : rInt.r F w x) : B (tSeq (tNVX K (WD E) nv) (tSeq (tRet (tCB (rListOf K) (tCons (tOp (rIxL K) (tFld K (tVar 0) "all_tips") (tVar 1)) tNil))) tNext)) [some v, some w] F (oRun C v) (pRtX K E (oRun C v) (rLst rInt)) (mRunTipsX nv x) :=
  b_exprX (fun _ _ => rz_rt pr_id) (evx_NV T rfl rfl r) fun _ F' s' => b_open fun vh vt vr ve => b_retX pr_run (ev_frz (eo_copyLL (rd_tips T (rd_var rfl) eC) eT (ev_var (rInt.mono s' r) rfl)))
def mRunPourX (nv : Net → Int → Option (Unit ⊕ Str)) (x y : Int) : M RunS (Unit ⊕ Str) := bndX (fun n s => (.inr n, s)) (mNVX nv x) fun _ => bnd (zm (fun s => s) (fun _ t => t) mRunKeep) fun _ =>
  bnd (bnd (ret ("pour" : Str)) fun a => bnd (bnd (ret x) fun a => bnd (bnd (ret y) fun x => ret (Sum.inl x)) fun b => ret (a, b)) fun b => ret (a, b)) fun r =>
  bnd (upL (fun s => s.1.2) (fun s t => ((s.1.1, t), s.2)) fun xs => app xs r) fun _ =>
  bnd (ret x) fun i => bnd (gtL (fun s => s.1.1.1.2) fun xs => atI xs i) fun a => bnd (ret y) fun b => bnd (upL (fun s => s.1.1.1.2) (fun s t => ((((s.1.1.1.1, t), s.1.1.2), s.1.2), s.2)) fun xs => setI xs i (a + b)) fun _ => fun s => some (.inl (), s)
def tRunPourX (K : PySem.W.Frag) (W : WX) (C : Addr) (nv : Net → Int → Option (Unit ⊕ Str)) : TS := tSeq (tNVX K W nv) (tSeq (tDrop (tMeth C "keep" (spKeep C) [] E0 (tVar 0) tNil))
  (tSeq (tDrop (tBM K "list" rAppend (tFld K (tVar 0) "rows") (tCons (tTup (tCons (tC (.str "pour")) (tCons (tVar 1) (tCons (tVar 2) tNil)))) tNil)))
  (tSeq (tAugS (tFld K (tVar 0) "hand") (tVar 1) (tVar 2) (rIxL K) (ipI fun i j => i + j) L2.rSetL) tNext)))
theorem run_pourX {nv : Net → Int → Option (Unit ⊕ Str)} {w2 : V} {x y : Int} (T : RunT K C) (r : rInt.r F w x) (r2 : rInt.r F w2 y) : B (tRunPourX K (WD E) C nv) [some v, some w, some w2] F (oRun C v) (pEnX K E (oRun C v)) (mRunPourX nv x y) :=
  b_exprX (fun _ _ => rz_en pr_id) (evx_NV T rfl rfl r) fun _ F1 s1 => b_expr (ev_meth0S (hd_run "keep" (nolk (by decide +kernel))) rfl emb_id) fun _ F2 s2 => b_open fun vh vt vr ve =>
    b_appR (rd_rows T (rd_var rfl) eC) eR (ev_tup (by decide) (ea_cons ev_str (ea_cons (ev_var (rInt.mono (s1.trans s2) r) rfl) (ea_one (ev_inl (ev_var (rInt.mono (s1.trans s2) r2) rfl))))))
      (b_augR (h := fun i j => i + j) (rd_hand T (rd_var rfl) eC) eH (ev_var (rInt.mono (s1.trans s2) r) rfl) (ev_var (rInt.mono (s1.trans s2) r2) rfl) (b_endX pr_run))
/-! its book -/
theorem vh_list : VH (rListOf K) R (rLst R) (fun xs => some xs) := fun F H O l vs xs b W h rp hf Q q => by
  cases hf
  exact ⟨l, vs, rfl, .inl (SqL.of h), fun d nd => q _ _ _ (W.sameF nd) (W.newF nd) ⟨d, vs, rfl, upd_same, paired_mono (fun _ _ => R.mono (W.sameF nd)) rp⟩⟩
def mRunBook : M RunS (List RRow) := bnd (gtL (fun s => s.1.2) fun xs => some xs) fun x s => some (x, s)
theorem run_book (T : RunT K C) : B (tSeq (tRet (tCB (rListOf K) (tCons (tFld K (tVar 0) "rows") tNil))) tNext) [some v] F (oRun C v) (pRt (oRun C v) (rLst rRRow)) mRunBook := b_open fun vh vt vr ve => b_ret pr_run (ev_cbR vh_list (rd_rows T (rd_var rfl) eC) eR)
end
end T

/-! T41: things of one type read as of another; results that are new and owned of defs with owned things; more than one owned argument. -/
namespace T
open PySem L2
section
variable {S S1 S2 T' α β γ δ ι : Type} {R : Rl α} {R' : Rl β} {R2 : Rl γ} {U : Rl δ} {K : PySem.W.Frag} {C : Addr} {σ : L2.St} {F : Hp} {A : Ow S} {te ta : TE} {v w : V} {j : Nat}
theorem cvp_id : CvP R R (fun x => some x) := fun F v x y r e => by cases e; exact r
theorem cvp_none : CvP rNone (rOpt R) (fun _ => some none) := fun F v x y r e => by cases e; exact r
theorem cvp_some {f : α → Option β} (h : CvP R R' f) : CvP R (rOpt R') (fun x => (f x).map some) := fun F v x y r e => by
  obtain ⟨z, e1, rfl⟩ := Option.map_eq_some_iff.mp e
  exact h F v x z r e1
theorem cvp_oo {f : α → Option β} (h : CvP R R' f) : CvP (rOpt R) (rOpt R') (fun o => match o with | none => some none | some x => (f x).map some) := fun F v o y r e => by
  cases o with
  | none => cases e; exact r
  | some x => exact cvp_some h F v x y r e
theorem cvp_l {f : α → Option β} (h : CvP R R' f) : CvP R (rSum R' R2) (fun x => (f x).map Sum.inl) := fun F v x y r e => by
  obtain ⟨z, e1, rfl⟩ := Option.map_eq_some_iff.mp e
  exact h F v x z r e1
theorem cvp_r {f : α → Option β} (h : CvP R R' f) : CvP R (rSum R2 R') (fun x => (f x).map Sum.inr) := fun F v x y r e => by
  obtain ⟨z, e1, rfl⟩ := Option.map_eq_some_iff.mp e
  exact h F v x z r e1
def CvA {α β : Type} (T : Ar α) (T' : Ar β) (f : α → Option β) : Prop := ∀ F vs x y, T.r F vs x → f x = some y → T'.r F vs y
theorem cva_one {f : α → Option β} (h : CvP R R' f) : CvA (arOne R) (arOne R') f := fun F vs x y ⟨v, e1, r⟩ e => ⟨v, e1, h F v x y r e⟩
theorem cva_c {T : Ar γ} {T' : Ar δ} {f : α → Option β} {g : γ → Option δ} (h : CvP R R' f) (k : CvA T T' g) : CvA (arC R T) (arC R' T') (fun x => (f x.1).bind fun a => (g x.2).map fun b => (a, b)) := fun F vs x y ⟨v, r, e1, r1, r2⟩ e => by
  obtain ⟨a, e2, e⟩ := Option.bind_eq_some_iff.mp e
  obtain ⟨b, e3, rfl⟩ := Option.map_eq_some_iff.mp e
  exact ⟨v, r, e1, h F v _ _ r1 e2, k F r _ _ r2 e3⟩
theorem cvp_th {T : Ar α} {T' : Ar β} {f : α → Option β} (h : CvA T T' f) : CvP (rTh T) (rTh T') f := fun F v x y ⟨p, vs, e1, hp, r⟩ e => ⟨p, vs, e1, hp, h F vs x y r e⟩
theorem cvp_lh {T : Ar α} {T' : Ar β} {f : α → Option β} (h : CvA T T' f) : CvP (rLh T) (rLh T') f := fun F v x y ⟨p, vs, e1, hp, r⟩ e => ⟨p, vs, e1, hp, h F vs x y r e⟩
def mapO {α β : Type} (f : α → Option β) : List α → Option (List β)
  | [] => some []
  | x :: xs => (f x).bind fun y => (mapO f xs).map fun ys => y :: ys
theorem mapO_paired {f : α → Option β} {Q : V → α → Prop} {Q' : V → β → Prop} (h : ∀ v x y, Q v x → f x = some y → Q' v y) {vs : List V} {xs : List α} (rp : Paired Q vs xs) : ∀ {ys : List β}, mapO f xs = some ys → Paired Q' vs ys := by
  induction rp with
  | nil => intro ys e; cases e; exact .nil
  | cons r t ih =>
    intro ys e
    obtain ⟨y, e1, e⟩ := Option.bind_eq_some_iff.mp e
    obtain ⟨zs, e2, rfl⟩ := Option.map_eq_some_iff.mp e
    exact .cons (h _ _ _ r e1) (ih e2)
theorem cvp_tup {f : α → Option β} (h : CvP R R' f) : CvP (rTup R) (rTup R') (mapO f) := fun F v x y ⟨p, vs, e1, hp, r⟩ e => ⟨p, vs, e1, hp, mapO_paired (fun v x y => h F v x y) r e⟩
theorem cvp_lst {f : α → Option β} (h : CvP R R' f) : CvP (rLst R) (rLst R') (mapO f) := fun F v x y ⟨p, vs, e1, hp, r⟩ e => ⟨p, vs, e1, hp, mapO_paired (fun v x y => h F v x y) r e⟩
/-- a row of unlike things as a row of like ones -/
def CvL {α β : Type} (T : Ar α) (R : Rl β) (f : α → Option (List β)) : Prop := ∀ F vs x y, T.r F vs x → f x = some y → Paired (R.r F) vs y
theorem cvl_one {f : α → Option β} (h : CvP R R' f) : CvL (arOne R) R' (fun x => (f x).map fun y => [y]) := fun F vs x y ⟨v, e1, r⟩ e => by
  obtain ⟨z, e2, rfl⟩ := Option.map_eq_some_iff.mp e
  rw [e1]
  exact .cons (h F v x z r e2) .nil
theorem cvl_c {T : Ar γ} {f : α → Option β} {g : γ → Option (List β)} (h : CvP R R' f) (k : CvL T R' g) : CvL (arC R T) R' (fun x => (f x.1).bind fun a => (g x.2).map fun b => a :: b) := fun F vs x y ⟨v, r, e1, r1, r2⟩ e => by
  obtain ⟨a, e2, e⟩ := Option.bind_eq_some_iff.mp e
  obtain ⟨b, e3, rfl⟩ := Option.map_eq_some_iff.mp e
  rw [e1]
  exact .cons (h F v _ _ r1 e2) (k F r _ _ r2 e3)
theorem cvp_thT {T : Ar α} {f : α → Option (List β)} (h : CvL T R' f) : CvP (rTh T) (rTup R') f := fun F v x y ⟨p, vs, e1, hp, r⟩ e => ⟨p, vs, e1, hp, h F vs x y r e⟩
theorem cvp_lhL {T : Ar α} {f : α → Option (List β)} (h : CvL T R' f) : CvP (rLh T) (rLst R') f := fun F v x y ⟨p, vs, e1, hp, r⟩ e => ⟨p, vs, e1, hp, h F vs x y r e⟩
/-- a new list, its things read as of another type -/
theorem eo_cvO {f : α → Option β} {m : M S (List α)} (h : CvP R R' f) (he : EvO te σ F A (oLst R) m) : EvO te σ F A (oLst R') (bnd m fun xs => lft (mapO f xs)) := fun s b s' hm F1 H c O sm ho W Q q => by
  obtain ⟨x, s1, h1, hm⟩ := bnd_some hm
  obtain ⟨h2, rfl⟩ := lft_some hm
  refine he s x _ h1 F1 H c O sm ho W _ fun v F2 H2 c2 cb s2 o2 ⟨l, vs, ev, ec, rp⟩ W2 => q v F2 H2 c2 cb s2 o2 ⟨l, vs, ev, ec, ?_⟩ W2
  exact mapO_paired (fun v x y => h F2 v x y) rp h2
/-! results that are new and owned -/
def spSo {ι : Type} (T : ι → Ar α) (B : ι → Ow S1) (U : V → Ow γ) (f : α → M S1 γ) : Sp := fun vs H Q _ => ∃ (i : ι) (F : Hp) (O c : Ch) (x : α) (s : S1) (b : γ) (s' : S1), (T i).r F vs x ∧ (B i).o F s c ∧ Wd F H (c ++ O) ∧ f x s = some (b, s') ∧
  ∀ v F' H' c' cb, Same F F' → (B i).o F' s' c' → (U v).o F' b cb → Wd F' H' (cb ++ (c' ++ O)) → Q v H'
theorem ok_So {Q : VK} {t : TS} {F H : Hp} {c O : Ch} {s s' : S} {b : β} {m : M S β} {U : V → Ow β} (W : Wd F H (c ++ O)) (ho : A.o F s c) (hm : m s = some (b, s')) (q : ∀ v F' H' c' cb, Same F F' → A.o F' s' c' → (U v).o F' b cb → Wd F' H' (cb ++ (c' ++ O)) → Q v H') (h : B t σ F A (pRo A U) m) : t { nx := fun _ H' => Q .non H', rt := Q } σ H :=
  h s (b, s') hm F H c O (SameR _) ho W _ fun v F' H' c' cb s o ob w => q v F' H' c' cb s o ob w
theorem eo_methS0 {T : Type} {mn : Str} {Bf : V → Ow T} {U : V → Ow γ} {f : M T γ} {E : XK} {g : S → T} {p : S → T → S} (hh : InsHd Bf C mn) (hv : σ[j]? = some (some v)) (e : Emb A (Bf v) g p) :
    EvO (tMeth C mn (spSo (fun v => arOne (rV v)) Bf U (fun _ => f)) [] E (tVar j) tNil) σ F A U (zm g p f) := fun s b s' hm F1 H c O sm ho W1 Q q => by
  obtain ⟨t, h2, rfl⟩ := zm_some hm
  obtain ⟨c3, c4, pm, ob, k⟩ := e.split ho
  obtain ⟨p0, dx, fs, rest, rfl, rfl, hl⟩ := hh.hd ob
  have W0 : Wd F1 H ((p0, .ins C dx fs) :: (rest ++ (c4 ++ O))) := by
    refine W1.perm ((pm.append_right O).trans ?_)
    simp
  refine ⟨_, hv, p0, dx, fs, rfl, W0.hd, hl, ?_⟩
  refine ⟨.ref p0, F1, c4 ++ O, (p0, .ins C dx fs) :: rest, (), g s, b, t, ⟨_, rfl, rfl⟩, ob, W1.perm ?_, h2, fun v F3 H3 c5 cb s3 o3 o4 W3 => ?_⟩
  · rw [← List.append_assoc]; exact pm.append_right O
  · obtain ⟨c', oc, pm2⟩ := k F3 t c5 s3 o3
    refine q v F3 H3 c' cb s3 oc o4 (W3.perm ?_)
    refine List.Perm.append_left cb ?_
    rw [← List.append_assoc]; exact (pm2.append_right O).symm
theorem eo_callSo (i : ι) {T : ι → Ar β} {B : ι → Ow S1} {U : V → Ow γ} {f : β → M S1 γ} {E : XK} {g : S → S1} {p : S → S1 → S} {ar : TA} {m' : M S β} (e : Emb A (B i) g p) (h : EvA ar σ F A (T i) m') : EvO (tCall (spSo T B U f) [] E ar) σ F A U (bnd m' fun x => zm g p (f x)) := fun s b s' hm F1 H c O sm ho Wd1 Q q => by
  obtain ⟨xs, s1, h1, hm⟩ := bnd_some hm
  obtain ⟨t, h2, rfl⟩ := zm_some hm
  refine h s _ _ h1 F1 H c O sm ho Wd1 _ fun vs F2 H2 c2 s2 o2 W2 r2 => ?_
  obtain ⟨c3, c4, pm, ob, k⟩ := e.split o2
  rw [List.append_nil]
  refine ⟨i, F2, c4 ++ O, c3, xs, g s1, b, t, r2, ob, W2.perm (by rw [← List.append_assoc]; exact pm.append_right O), h2, ?_⟩
  intro v F3 H3 c5 cb s3 o3 o4 W3
  obtain ⟨c', oc, pm2⟩ := k F3 t c5 s3 o3
  refine q v F3 H3 c' cb (s2.trans s3) oc o4 (W3.perm (List.Perm.append_left cb ?_))
  rw [← List.append_assoc]; exact (pm2.append_right O).symm
abbrev spRun0o {γ : Type} (C : Addr) (U : V → Ow γ) (f : M RunS γ) : Sp := spSo (fun v => arOne (rV v)) (oRun C) U (fun _ => f)
/-- list(x), x owned, and seen -/
theorem eo_cbR {g : S → List α} {p : S → List α → S} (hv : Rd te σ A v) (e : Emb A (oLst R v) g p) : EvO (tCB (rListOf K) (tCons te tNil)) σ F A (oLst R) (gtL g fun xs => some xs) := fun s b s' hm F1 H c O sm ho W Q q => by
  obtain ⟨h2, rfl⟩ := gtL_some hm
  cases h2
  refine hv F1 H _ c O ho W _ ?_
  obtain ⟨l, vs, c3, rfl, rp, W3, k⟩ := emb_list e ho W
  refine ⟨l, vs, rfl, .inl (SqL.of W3.hd), fun d nd => ?_⟩
  exact q (.ref d) F1 _ c [(d, .lst vs)] (SameR _) ho ⟨d, vs, rfl, rfl, rp⟩ (W.newO nd)
theorem run_bookO (T : RunT K C) : B (tSeq (tRet (tCB (rListOf K) (tCons (tFld K (tVar 0) "rows") tNil))) tNext) [some v] F (oRun C v) (pRo (oRun C v) (oLst rRRow)) mRunBook := b_open fun vh vt vr ve => b_reto pr_run (eo_cbR (rd_rows T (rd_var rfl) eC) eR)
/-! isinstance of an owned list -/
theorem ev_isiO {g : S → List α} {p : S → List α → S} {n : String} {bb : Bool} (hv : σ[j]? = some (some v)) (e : Emb A (oLst R v) g p) (h : kitB "list" n = some bb := by decide +kernel) : Ev (tCB (rIsi K) (tCons (tVar j) (tCons (tC (.ty n)) tNil))) σ F A rBool (gtL g fun _ => some bb) := fun s b s' hm F1 H c O sm ho W Q q => by
  obtain ⟨h2, rfl⟩ := gtL_some hm
  cases h2
  refine ⟨v, hv, ?_⟩
  obtain ⟨l, vs, c3, rfl, rp, W3, k⟩ := emb_list e ho W
  exact ⟨.ref l, .ty n, .type "list", .type n, _, rfl, .ty n, .base (.lst W3.hd), kit_bb h, q _ F1 H c (SameR _) ho W rfl⟩
/-! two owned things as one -/
theorem emb_pair {B : Ow T'} {X : Ow S1} {g : S → S1} {p : S → S1 → S} (e : Emb A X g p) : Emb (star A B) (star X B) (fun s => (g s.1, s.2)) (fun s t => (p s.1 t.1, t.2)) := ⟨fun {F s c} ⟨c1, c2, ec, ha, hb⟩ => by
  obtain ⟨a1, a2, pm, hx, k⟩ := e.split ha
  refine ⟨a1 ++ c2, a2, ?_, ⟨a1, c2, rfl, hx, hb⟩, fun F' t c' s' ⟨d1, d2, ed, hx', hb'⟩ => ?_⟩
  · rw [ec]
    refine (pm.append_right c2).trans ?_
    rw [List.append_assoc, List.append_assoc]
    exact List.Perm.append_left a1 List.perm_append_comm
  · obtain ⟨c6, h6, pm6⟩ := k F' t.1 d1 s' hx'
    refine ⟨c6 ++ d2, ⟨c6, d2, rfl, h6, hb'⟩, ?_⟩
    rw [ed]
    refine (pm6.append_right d2).trans ?_
    rw [List.append_assoc, List.append_assoc]
    exact List.Perm.append_left d1 List.perm_append_comm⟩
end
end T

/-! T42: pop(); what was last done is taken back. -/
namespace T
open PySem L2
section
variable {S S1 T' α β γ δ Ω ι : Type} {R : Rl α} {R' : Rl β} {K : PySem.W.Frag} {C : Addr} {E : XK} {σ : L2.St} {F : Hp} {A : Ow S} {te te0 ta : TE} {u : TS} {P : Post Ω} {v w vh vt vr ve : V} {j : Nat}
theorem kpe_bm0 {X : Cx} {K : PySem.W.Frag} {o : Expr} {to : TE} {name : Str} {apos cpos : Pos} {TT id : String} {r : V → List V → Hp → VK → Prop} (pa : PlainAttrs TT) (slot : Slot TT name id) (hty : typeOf (.builtin id) = pure (.type "method_descriptor")) (hm : MtR X id r) (ho : PE X o to) (eK : X.K = K := by rfl)
    (hbase : attributeBase o name X.env (eval o X.env) = eval o X.env := by rfl) (hline : (apos.endLine == cpos.line) = true := by rfl) : PE X (.Call (.Attribute o name apos) [] [] cpos) (tBM0 K TT r to) := by subst eK; exact pe_bm0 pa slot hty hm ho hbase hline
/-- xs.pop() -/
def popL (g : S → List α) (p : S → List α → S) : M S α := fun s => (g s).getLast?.map fun y => (y, p s (g s).dropLast)
theorem paired_dropLast {Q : V → α → Prop} {vs : List V} {xs : List α} (h : Paired Q vs xs) : Paired Q vs.dropLast xs.dropLast := by
  rw [List.dropLast_eq_take, List.dropLast_eq_take, paired_len h]
  exact paired_take _ h
theorem ev_popR {g : S → List α} {p : S → List α → S} (hv : Rd te σ A v) (e : Emb A (oLst R v) g p) : Ev (tBM0 K "list" rPop te) σ F A R (popL g p) := fun s b s' hm F1 H c O sm ho W Q q => by
  unfold popL at hm
  obtain ⟨y, h2, h3⟩ := Option.map_eq_some_iff.mp hm
  cases h3
  refine hv F1 H _ c O ho W _ ?_
  obtain ⟨l, vs, c3, rfl, rp, W3, kk⟩ := emb_list e ho W
  refine ⟨Or.inl ⟨rfl, vs, SqL.of W3.hd⟩, ?_⟩
  rw [List.getLast?_eq_getElem?] at h2
  obtain ⟨z, hz, rz⟩ := paired_get' rp h2
  rw [← paired_len rp] at hz
  obtain ⟨c4, o4, W4⟩ := kk F1 _ vs.dropLast (SameR _) (paired_dropLast rp) _ W3.set
  refine ⟨l, vs, z, rfl, rfl, W3.hd, hz, ?_⟩
  exact q z F1 _ c4 (SameR _) o4 W4 rz
theorem ev_pop0 {g : S → List α} {p : S → List α → S} (hv : σ[j]? = some (some v)) (e : Emb A (oLst R v) g p) : Ev (tBM0 K "list" rPop (tVar j)) σ F A R (popL g p) := ev_popR (rd_var hv) e
/-- x == e, x owned and seen -/
theorem ev_eqDR {g : S → List α} {p : S → List α → S} {m : M S β} (D : RD R) (E : RD R') (hv : Rd te0 σ A v) (e : Emb A (oLst R v) g p) (he : Ev te σ F A R' m) : Ev (tOp (rEqD K) te0 te) σ F A rBool (bnd m fun y => gtL g fun xs => eqD (.list (xs.map D.d)) (E.d y)) := fun s b s' hm F1 H c O sm ho W Q q => by
  obtain ⟨y, s1, h1, hm⟩ := bnd_some hm
  obtain ⟨h2, rfl⟩ := gtL_some hm
  refine hv F1 H s c O ho W _ (he s y s' h1 F1 H c O sm ho W _ fun vy F2 H2 c2 sm2 o2 W2 r2 => ?_)
  simp only [eqD] at h2; split at h2
  · rename_i h; cases h2
    exact ⟨_, _, dp_own D e o2 W2, Dp.mono W2.sub (E.dp r2), h.1, h.2, q _ F2 H2 c2 sm2 o2 W2 rfl⟩
  · cases h2
def dElder : RD rElder := dTh (daC dState (daC (dTup dInt) (daC (dTh (daC dInt (daC dInt (daOne dInt)))) (daOne (dLst dInt)))))
/-- self.now, x, y, z = e -/
theorem b_unpElder {i1 i2 i3 : Nat} {g : S → RCore} {p : S → RCore → S} {m : M S Elder} {h : Elder → S → Option Ω} (T : RunT K C) (h0 : σ[j]? = some (some v)) (e : Emb A (oCore C v vh vt vr ve) g p) (he : Ev te σ F A rElder m)
    (k : ∀ v1 v2 v3 x F', Same F F' → (rTup rInt).r F' v1 x.2.1 → rSums.r F' v2 x.2.2.1 → (rLst rInt).r F' v3 x.2.2.2 → B u (((σ.set i1 (some v1)).set i2 (some v2)).set i3 (some v3)) F' A P (h x)) :
    B (tSeq (tAsg te (gTup K 4 (gCons (gFld K (tVar j) "now") (gCons (gName i1) (gCons (gName i2) (gCons (gName i3) gNil)))))) u) σ F A P (bnd m fun x => bnd (upL g p fun t => some (t.1, x.1, t.2.2)) fun _ => h x) := fun s w hm F1 H c O sm ho W D q => by
  obtain ⟨x, s1, h1, hm⟩ := bnd_some hm
  obtain ⟨_, s2, h2, hm⟩ := bnd_some hm
  obtain ⟨t, h2a, rfl⟩ := upL_some h2
  cases h2a
  refine he s x s1 h1 F1 H c O sm ho W _ fun z F2 H2 c2 sm2 o2 W2 ⟨a, vs, ez, hp, v0, _, e1, r0, v1, _, e2, r1, v2, _, e3, r2, v3, e4, r3⟩ => ?_
  subst e4 e3 e2 e1
  refine ⟨a, _, ez, SqT.of (W2.sub _ _ hp), rfl, v0, _, rfl, ?_⟩
  obtain ⟨b, dx, vn, vs, c3, rfl, q1, q2, W3, kk⟩ := emb_core e o2 W2
  refine ⟨_, h0, b, C, dx, _, rfl, W3.hd, T.cl, T.now, lx, ?_⟩
  rw [pt_now]
  refine ⟨v1, _, rfl, v2, _, rfl, v3, _, rfl, rfl, ?_⟩
  have W4 := W3.set (o' := .ins C dx (runFs vn v0 vh vt vr ve (g s1).2.2.1 (g s1).2.2.2.1 (g s1).2.2.2.2))
  obtain ⟨c5, o5, W5⟩ := kk F2 vn v0 ((g s1).1, x.1, (g s1).2.2) (SameR _) q1 r0 _ W4
  exact k v1 v2 v3 x F2 (sm.trans sm2) r1 r2 r3 _ w hm F2 _ c5 O (SameR _) o5 W5 D (P.mono sm2 q)
/-- self.many_gone, self.all_came, self.all_ground = e -/
theorem b_unpSums {g : S → RCore} {p : S → RCore → S} {m : M S (Int × Int × Int)} {h : S → Option Ω} (T : RunT K C) (h0 : σ[j]? = some (some v)) (e : Emb A (oCore C v vh vt vr ve) g p) (he : Ev te σ F A rSums m)
    (k : B u σ F A P h) :
    B (tSeq (tAsg te (gTup K 3 (gCons (gFld K (tVar j) "many_gone") (gCons (gFld K (tVar j) "all_came") (gCons (gFld K (tVar j) "all_ground") gNil))))) u) σ F A P (bnd m fun x => bnd (upL g p fun t => some (t.1, t.2.1, x)) fun _ => h) := fun s w hm F1 H c O sm ho W D q => by
  obtain ⟨x, s1, h1, hm⟩ := bnd_some hm
  obtain ⟨_, s2, h2, hm⟩ := bnd_some hm
  obtain ⟨t, h2a, rfl⟩ := upL_some h2
  cases h2a
  refine he s x s1 h1 F1 H c O sm ho W _ fun z F2 H2 c2 sm2 o2 W2 ⟨a, vs, ez, hp, v0, _, e1, r0, v1, _, e2, r1, v2, e3, r2⟩ => ?_
  subst e3 e2 e1
  obtain rfl : v0 = .int x.1 := r0
  obtain rfl : v1 = .int x.2.1 := r1
  obtain rfl : v2 = .int x.2.2 := r2
  refine ⟨a, _, ez, SqT.of (W2.sub _ _ hp), rfl, _, _, rfl, ?_⟩
  obtain ⟨b, dx, vn, vs, c3, rfl, q1, q2, W3, kk⟩ := emb_core e o2 W2
  refine ⟨_, h0, b, C, dx, _, rfl, W3.hd, T.cl, T.many_gone, lx, ?_⟩
  rw [pt_gone]
  refine ⟨_, _, rfl, _, h0, b, C, dx, _, rfl, upd_same, T.cl, T.all_came, lx, ?_⟩
  rw [pt_came]
  refine ⟨_, _, rfl, _, h0, b, C, dx, _, rfl, upd_same, T.cl, T.all_ground, lx, rfl, ?_⟩
  rw [pt_ground]
  have W4 := ((W3.set (o' := .ins C dx (runFs vn vs vh vt vr ve x.1 (g s1).2.2.2.1 (g s1).2.2.2.2))).set (o' := .ins C dx (runFs vn vs vh vt vr ve x.1 x.2.1 (g s1).2.2.2.2))).set (o' := .ins C dx (runFs vn vs vh vt vr ve x.1 x.2.1 x.2.2))
  obtain ⟨c5, o5, W5⟩ := kk F2 vn vs ((g s1).1, (g s1).2.1, x) (SameR _) q1 q2 _ W4
  exact k _ w hm F2 _ c5 O (sm.trans sm2) o5 W5 D (P.mono sm2 q)
/-- self.all_tips = new lists -/
theorem pt_tips {vn vs w : V} {a b c : Int} : putF "all_tips" w (runFs vn vs vh vt vr ve a b c) = runFs vn vs vh w vr ve a b c := by
  unfold runFs
  rw [putF_past (by decide +kernel), putF_past (by decide +kernel), putF_past (by decide +kernel), putF_past (by decide +kernel), putF_hit]
theorem b_tips {A : V → Ow S} {g : S → (RCore × List Int) × List (List Int)} {p : S → (RCore × List Int) × List (List Int) → S} {m : M S (List (List Int))} {h : S → Option Ω} (T : RunT K C) (h0 : σ[j]? = some (some v)) (e : EmbF A (fun i => star (star (oCore C v vh i vr ve) (oLst rInt vh)) (oLL rInt i)) g p) (he : EvO te σ F (A vt) (oLL rInt) m) (k : ∀ vt' F', Same F F' → B u σ F' (A vt') P h) :
    B (tSeq (sFld K (tVar j) te "all_tips") u) σ F (A vt) P (bnd m fun x => bnd (upL g p fun t => some (t.1, x)) fun _ => h) := fun s w hm F1 H c O sm ho W D q => by
  obtain ⟨x, s1, h1, hm⟩ := bnd_some hm
  obtain ⟨_, s2, h2, hm⟩ := bnd_some hm
  obtain ⟨t, h2a, rfl⟩ := upL_some h2
  cases h2a
  refine he s x s1 h1 F1 H c O sm ho W _ fun z F2 H2 c2 cb sm2 o2 ob W2 => ⟨_, h0, ?_⟩
  obtain ⟨c3, c4, pm, ⟨c5, c6, rfl, ⟨c7, c8, rfl, ⟨a, dx, vn, vs, e1, rfl, r1, r2⟩, oh⟩, ol⟩, kk⟩ := e.split o2
  subst e1
  have W3 : Wd F2 H2 ((a, .ins C dx (runFs vn vs vh vt vr ve (g s1).1.1.2.2.1 (g s1).1.1.2.2.2.1 (g s1).1.1.2.2.2.2)) :: (c8 ++ (cb ++ (c4 ++ O)) ++ c6)) := by
    refine W2.perm ?_
    have p1 : (cb ++ (c2 ++ O)).Perm (cb ++ (((([(a, HO.ins C dx (runFs vn vs vh vt vr ve (g s1).1.1.2.2.1 (g s1).1.1.2.2.2.1 (g s1).1.1.2.2.2.2))] ++ c8) ++ c6) ++ c4) ++ O)) := (pm.append_right O).append_left _
    refine p1.trans ?_
    simp only [List.append_assoc, List.cons_append, List.nil_append]
    refine (List.perm_middle).trans (List.Perm.cons _ ?_)
    -- cb ++ (c8 ++ (c6 ++ (c4 ++ O))) ~ c8 ++ (cb ++ (c4 ++ (O ++ c6)))
    rw [← List.append_assoc]
    refine ((List.perm_append_comm (l₁ := cb) (l₂ := c8)).append_right _).trans ?_
    rw [List.append_assoc]
    refine List.Perm.append_left c8 (List.Perm.append_left cb ?_)
    refine (List.perm_append_comm (l₁ := c6) (l₂ := c4 ++ O)).trans ?_
    rw [List.append_assoc]
  refine ⟨a, C, dx, _, rfl, W3.hd, T.cl, T.all_tips, lx, ?_⟩
  rw [pt_tips]
  have W4 := (W3.set (o' := .ins C dx (runFs vn vs vh z vr ve (g s1).1.1.2.2.1 (g s1).1.1.2.2.2.1 (g s1).1.1.2.2.2.2))).sublist (List.Sublist.cons_cons _ (List.sublist_append_left (c8 ++ (cb ++ (c4 ++ O))) c6))
  obtain ⟨c7', o7, pm7⟩ := kk z F2 ((g s1).1, x) _ (SameR _) ⟨_, _, rfl, ⟨_, _, rfl, ⟨a, dx, vn, vs, rfl, rfl, r1, r2⟩, oh⟩, ob⟩
  refine k z F2 (sm.trans sm2) _ w hm F2 _ c7' O (SameR _) o7 (W4.perm ?_) D (P.mono sm2 q)
  refine ((pm7.append_right O).trans ?_).symm
  simp only [List.append_assoc, List.cons_append, List.nil_append]
  exact List.Perm.refl _
/-- [x[:n] for x, n in zip(xs, ns)], xs a list of lists -/
theorem eo_cuts {g : S → List (List α)} {p : S → List (List α) → S} {mc : M S (List Int)} {i1 i2 : Nat} (hv : Rd te0 σ A v) (e : Emb A (oLL R v) g p) (hc : Ev te σ F A (rLst rInt) mc) (h1 : i1 < σ.length) (h2 : i2 < σ.length) (hne : i1 ≠ i2)
    (hw : ∀ x y, wipe (((wipe σ [i1, i2]).set i1 (some x)).set i2 (some y)) [i1, i2] = wipe σ [i1, i2]) :
    EvO (tLc (iZip K (tCons te0 (tCons te tNil))) (gTup K 2 (gCons (gName i1) (gCons (gName i2) gNil))) tYes (tSl (rSlL K) (tVar i1) tNoPart (tPart (tVar i2))) [i1, i2]) σ F A (oLL R) (bnd mc fun cs => bnd (gtL g fun xs => chk xs) fun xs => ret ((xs.zip cs).map fun q => cutV' q.1 none (some q.2))) := fun s b s' hm F1 H c O sm ho W Q q => by
  obtain ⟨cs, s1, g1, hm⟩ := bnd_some hm
  obtain ⟨xs, s2, g2, hm2⟩ := bnd_some hm
  obtain ⟨g2a, rfl⟩ := gtL_some g2
  obtain ⟨rfl, hlen⟩ := chk_some g2a
  obtain ⟨rfl, rfl⟩ := ret_some hm2
  refine hv F1 H _ c O ho W _ (hc _ _ _ g1 F1 H c O sm ho W _ fun vc F2 H2 c2 s2' o2 W2 r2 => ?_)
  obtain ⟨pc, ws, rfl, hpc, rpc⟩ := r2
  obtain ⟨l, ts, rfl, rp, hm0, hm1⟩ := ll_at e o2
  have hl := paired_len2 rp
  have hlc := paired_len rpc
  have hml : ∀ {F' H' : Hp} {o : HO} {a : Addr} {Z : Ch}, Wd F' H' (Z ++ (c2 ++ O)) → (a, o) ∈ c2 → H' a = some o := fun W' hm => wd_mem W' (List.mem_append_right _ (List.mem_append_left _ hm))
  refine ⟨l, pc, ts.map fun q => V.ref q.1, ws, rfl, SqL.of (hml (Z := []) W2 hm0), SqL.of (W2.sub _ _ hpc), fun D nD => ?_⟩
  let Pv : Nat → Hp → Prop := fun i H' => ∃ F3, ∃ us : List (Addr × List V), Same F2 F3 ∧ Wd F3 H' (((D, .lst (us.map fun q => V.ref q.1)) :: us.map (fun q => (q.1, HO.lst q.2))) ++ (c2 ++ O)) ∧ us.length = i ∧ Paired (fun (q : Addr × List V) ys => Paired (R.r F3) q.2 ys) us ((((g s').zip cs).take i).map fun q => cutV' q.1 none (some q.2))
  refine lc_it (walk_zip (K := K) (a := l) (b := pc) (xs := ts.map fun q => V.ref q.1) (ys := ws) rfl) Pv ?_ ?_ ?_ ?_
  · exact ⟨F2, [], SameR _, W2.newO nD, rfl, .nil⟩
  · rintro i H3 _ ⟨F3, us, s3, W3, _⟩
    exact ⟨SqL.of (hml W3 hm0), SqL.of (W3.sub _ _ (s3 _ _ hpc))⟩
  · rintro i y H3 H4 hlt ⟨F3, us, s3, W3, hi, hu⟩ ⟨Tp, x, z, rfl, nT, rfl, ex, ez⟩
    rw [List.length_map] at hlt
    have hlt1 : i < ts.length := by omega
    have hlt2 : i < ws.length := by omega
    replace ex : (ts.map fun q => V.ref q.1)[i]? = some x := ex
    rw [List.getElem?_map] at ex
    obtain ⟨t, ht, rfl⟩ := Option.map_eq_some_iff.mp ex
    obtain ⟨n, hn, rn⟩ := paired_get rpc ez
    obtain rfl : z = .int n := rn
    obtain ⟨ys, hys, rys⟩ : ∃ ys, (g s')[i]? = some ys ∧ Paired (R.r F2) t.2 ys := by
      have hx : (g s')[i]? = some (g s')[i] := List.getElem?_eq_getElem (by omega)
      obtain ⟨t', ht', rt'⟩ := pget_ll rp hx
      rw [ht] at ht'; cases ht'
      exact ⟨_, hx, rt'⟩
    have W4 := W3.newF (o := .tup [.ref t.1, .int n]) nT
    have s4 := W3.sameF (o := .tup [.ref t.1, .int n]) nT
    refine ⟨Tp, _, rfl, SqT.of upd_same, rfl, .ref t.1, _, rfl, .int n, _, rfl, rfl, hw _ _, ?_⟩
    refine iteT (B := Pv (i + 1) (upd H3 Tp (.tup [.ref t.1, .int n]))) ?_
    have l1 : i1 < (wipe σ [i1, i2]).length := by rw [wipe_length]; exact h1
    have l2 : i2 < (wipe σ [i1, i2]).length := by rw [wipe_length]; exact h2
    have hH : upd H3 Tp (.tup [.ref t.1, .int n]) t.1 = some (.lst t.2) := hml W4 (hm1 t (List.mem_of_getElem? ht))
    refine ⟨.ref t.1, by rw [List.getElem?_set_ne (Ne.symm hne), List.getElem?_set_self l1], .int n, by rw [List.getElem?_set_self (by rw [List.length_set]; exact l2)], n, rfl, t.1, t.2, rfl, SqL.of hH, fun p np => ?_⟩
    have W5 := W4.newO (o := .lst (cutV t.2 none (some n))) np
    refine ⟨_, (W5.tl).hd, ?_, _, us ++ [(p, cutV t.2 none (some n))], s3.trans s4, ?_, by simp [hi], ?_⟩
    · rw [List.length_map, hi]; exact lim_le (by omega)
    · have W6 := (W5.perm (List.Perm.swap _ _ _)).set (o' := .lst (us.map (fun q => V.ref q.1) ++ [.ref p]))
      refine (W6.perm ?_)
      rw [List.map_append, List.map_append]
      refine List.Perm.cons _ ?_
      show ((p, HO.lst _) :: (us.map (fun q => (q.1, HO.lst q.2)) ++ (c2 ++ O))).Perm ((us.map (fun q => (q.1, HO.lst q.2)) ++ [(p, HO.lst _)]) ++ (c2 ++ O))
      rw [List.append_assoc]
      exact (List.perm_middle (l₁ := us.map (fun q => (q.1, HO.lst q.2)))).symm
    · have hz : ((g s').zip cs)[i]? = some (ys, n) := by rw [List.getElem?_zip_eq_some]; exact ⟨hys, hn⟩
      have htk : ((g s').zip cs).take (i + 1) = ((g s').zip cs).take i ++ [(ys, n)] := by rw [List.take_succ, hz]; rfl
      rw [htk, List.map_append]
      have hu2 := hu.mono fun _ _ q => paired_mono (fun _ _ => R.mono s4) q
      have : Paired (R.r (upd F3 Tp (.tup [.ref t.1, .int n]))) (cutV t.2 none (some n)) (cutV' ys none (some n)) := paired_mono (fun _ _ => R.mono (s3.trans s4)) (paired_cut rys none (some n))
      exact hu2.snoc this
  · rintro H3 ⟨F3, us, s3, W3, hi, hu⟩
    have hz : ((g s').zip cs).take (min (ts.map fun q => V.ref q.1).length ws.length) = (g s').zip cs := List.take_of_length_le (by rw [List.length_zip, List.length_map]; omega)
    rw [hz] at hu
    exact q (.ref D) F3 H3 c2 _ (s2'.trans s3) (A.mono s3 o2) ⟨D, us, rfl, rfl, hu⟩ W3
/-! back -/
def mRunBack : M RunS (Unit ⊕ Str) := bnd (bnd (bnd (ret ([] : List Elder)) fun xs => lft (few xs)) fun y => gtL (fun s => s.2) fun xs => eqD (.list (xs.map dElder.d)) ((dLst dElder).d y)) fun b => bif b then (fun s => some (.inr "Nothing", s)) else
  bnd (popL (fun s => s.2) (fun s t => (s.1, t))) fun x => bnd (upL (fun s => s.1.1.1.1) (fun s t => ((((t, s.1.1.1.2), s.1.1.2), s.1.2), s.2)) fun t => some (t.1, x.1, t.2.2)) fun _ =>
  bnd (popL (fun s => s.1.2) (fun s t => ((s.1.1, t), s.2))) fun _ =>
  bnd (bnd (ret x.2.1) fun a => lft (some a)) fun h => bnd (upL (fun s => s.1.1.1) (fun s t => (((t, s.1.1.2), s.1.2), s.2)) fun t => some (t.1, h)) fun _ =>
  bnd (ret x.2.2.1) fun y => bnd (upL (fun s => s.1.1.1.1) (fun s t => ((((t, s.1.1.1.2), s.1.1.2), s.1.2), s.2)) fun t => some (t.1, t.2.1, y)) fun _ =>
  bnd (bnd (ret x.2.2.2) fun cs => bnd (gtL (fun s => s.1.1.2) fun xs => chk xs) fun xs => ret ((xs.zip cs).map fun q => cutV' q.1 none (some q.2))) fun z => bnd (upL (fun s => s.1.1) (fun s t => ((t, s.1.2), s.2)) fun t => some (t.1, z)) fun _ => fun s => some (.inl (), s)
def tRunBack (K : PySem.W.Frag) (W : WX) : TS := tSeq (tIfS (tTest (tOp (rEqD K) (tSelf K "elder") (tLst tNil))) (tSeq (tRaise K W "Nothing") tNext) tNext)
  (tSeq (tAsg (tBM0 K "list" rPop (tSelf K "elder")) (gTup K 4 (gCons (gFld K (tVar 0) "now") (gCons (gName 1) (gCons (gName 2) (gCons (gName 3) gNil))))))
  (tSeq (tDrop (tBM0 K "list" rPop (tSelf K "rows")))
  (tSeq (sFld K (tVar 0) (tCB (rListOf K) (tCons (tVar 1) tNil)) "hand")
  (tSeq (tAsg (tVar 2) (gTup K 3 (gCons (gFld K (tVar 0) "many_gone") (gCons (gFld K (tVar 0) "all_came") (gCons (gFld K (tVar 0) "all_ground") gNil)))))
  (tSeq (sFld K (tVar 0) (tLc (iZip K (tCons (tSelf K "all_tips") (tCons (tVar 3) tNil))) (gTup K 2 (gCons (gName 4) (gCons (gName 5) gNil))) tYes (tSl (rSlL K) (tVar 4) tNoPart (tPart (tVar 5))) [4, 5]) "all_tips") tNext)))))
theorem run_back (T : RunT K C) : B (tRunBack K (WD E)) [some v, none, none, none, none, none] F (oRun C v) (pEnX K E (oRun C v)) mRunBack :=
  b_open fun vh vt vr ve => b_ifRaise (fun _ _ => rz_en pr_run) (et_test (ev_eqDR dElder (dLst dElder) (rd_elder T (rd_var rfl) eC) eE (ev_frz (eo_lst eal_nil)))) fun F1 s1 =>
  b_unpElder T rfl eC (ev_popR (rd_elder T (rd_var rfl) eC) eE) fun v1 v2 v3 x F2 s2 r1 r2 r3 =>
  b_σ (σ' := [some v, some v1, some v2, some v3, none, none]) rfl
  (b_expr (ev_popR (R := rRRow) (rd_rows T (rd_var rfl) eC) eR) fun _ F3 s3 =>
  b_hand (A := fun i => oParts C v i vt vr ve) T rfl (embF_l (embF_l (embF_l embF_id))) (eo_cb vo_listT (ea_one (ev_var ((rTup rInt).mono s3 r1) rfl))) fun vh' F4 s4 =>
  b_unpSums T rfl eC (ev_var (rSums.mono (s3.trans s4) r2) rfl)
  (b_tips (A := fun i => oParts C v vh' i vr ve) T rfl (embF_l (embF_l embF_id)) (eo_cuts (rd_tips T (rd_var rfl) eC) eT (ev_var ((rLst rInt).mono (s3.trans s4) r3) rfl) (by show 4 < 6; decide) (by show 5 < 6; decide) (by decide) (fun _ _ => wipe_s _ _ (by decide) (wipe_s _ _ (by decide) (wipe_w _ _)))) fun vt' F5 s5 =>
  b_endX pr_run))
end
end T

/-! T43: pooled runs with methods that may raise; seven at once. -/
namespace T
open PySem L2
section
variable {S T' α γ : Type} {U : Rl γ} {Uo : V → Ow γ} {K : PySem.W.Frag} {C : Addr} {σ : L2.St} {F : Hp} {A : Ow S} {mn : Str} {te0 : TE} {ps : List V} {m0 : M S Int} {E : XK} {g : S → List T'} {p : S → List T' → S} {Bf : V → Ow T'} {ar : TA}
theorem ev_methPX {X : Ar α} {f : α → M T' (γ ⊕ Str)} {ma : M S α} (hh : InsHd Bf C mn) (h0 : Ev te0 σ F A (rRef ps) m0) (e : Emb A (oPool Bf ps) g p) (h : EvA ar σ F A X ma) :
    Ev (tMeth C mn (spSX K (fun v => arC (rV v) X) Bf U (fun x => f x.2)) [] E te0 ar) σ F A U (bnd m0 fun k => bnd ma fun x => zmI g p k (okM (f x))) := fun s b s' hm F1 H c O sm ho W Q q => by
  obtain ⟨k, s0, h0m, hm⟩ := bnd_some hm
  obtain ⟨xs, s1, h1, hm⟩ := bnd_some hm
  obtain ⟨t, t', ht, hf, rfl⟩ := zmI_some hm
  refine h0 s k s0 h0m F1 H c O sm ho W _ fun v F0 H0 c0 s0' o0 W0 r0 => ?_
  obtain ⟨x0, _, c3, c4, pm, ob, _⟩ := emb_pool e o0 r0
  obtain ⟨p0, dx, fs, rest, rfl, rfl, hl⟩ := hh.hd ob
  have W0' : Wd F0 H0 ((p0, .ins C dx fs) :: (rest ++ (c4 ++ O))) := by
    refine W0.perm ((pm.append_right O).trans ?_)
    simp
  refine ⟨p0, dx, fs, rfl, W0'.hd, hl, ?_⟩
  refine h s0 _ _ h1 F0 H0 c0 O (sm.trans s0') o0 W0 _ fun vs F2 H2 c2 s2 o2 W2 r2 => ?_
  obtain ⟨x, hx, c3', c4', pm', ob', k'⟩ := emb_pool e o2 ((rRef ps).mono s2 r0)
  rw [hx] at ht
  cases ht
  rw [List.append_nil]
  refine ⟨.ref p0, F2, c4' ++ O, c3', ((), xs), _, .inl b, t', ⟨_, _, rfl, rfl, r2⟩, ob', W2.perm ?_, okM_some hf, fun v F3 H3 c5 s3 o3 W3 r3 => ?_⟩
  · rw [← List.append_assoc]; exact pm'.append_right O
  · obtain ⟨c', oc, pm2⟩ := k' F3 t' c5 s3 o3
    refine q v F3 H3 c' (s0'.trans (s2.trans s3)) oc (W3.perm ?_) r3
    rw [← List.append_assoc]; exact (pm2.append_right O).symm
theorem ev_meth0PX {f : M T' (γ ⊕ Str)} (hh : InsHd Bf C mn) (h0 : Ev te0 σ F A (rRef ps) m0) (e : Emb A (oPool Bf ps) g p) :
    Ev (tMeth C mn (spSX K (fun v => arOne (rV v)) Bf U (fun _ => f)) [] E te0 tNil) σ F A U (bnd m0 fun k => zmI g p k (okM f)) := fun s b s' hm F1 H c O sm ho W Q q => by
  obtain ⟨k, s0, h0m, hm⟩ := bnd_some hm
  obtain ⟨t, t', ht, hf, rfl⟩ := zmI_some hm
  refine h0 s k s0 h0m F1 H c O sm ho W _ fun v F0 H0 c0 s0' o0 W0 r0 => ?_
  obtain ⟨x0, hx, c3, c4, pm, ob, k'⟩ := emb_pool e o0 r0
  obtain ⟨p0, dx, fs, rest, rfl, rfl, hl⟩ := hh.hd ob
  rw [hx] at ht
  cases ht
  have W0' : Wd F0 H0 ((p0, .ins C dx fs) :: (rest ++ (c4 ++ O))) := by
    refine W0.perm ((pm.append_right O).trans ?_)
    simp
  refine ⟨p0, dx, fs, rfl, W0'.hd, hl, ?_⟩
  refine ⟨.ref p0, F0, c4 ++ O, (p0, .ins C dx fs) :: rest, (), _, .inl b, t', ⟨_, rfl, rfl⟩, ob, W0.perm ?_, okM_some hf, fun v F3 H3 c5 s3 o3 W3 r3 => ?_⟩
  · rw [← List.append_assoc]; exact pm.append_right O
  · obtain ⟨c', oc, pm2⟩ := k' F3 t' c5 s3 o3
    refine q v F3 H3 c' (s0'.trans s3) oc (W3.perm ?_) r3
    rw [← List.append_assoc]; exact (pm2.append_right O).symm
theorem eo_meth0P {f : M T' γ} (hh : InsHd Bf C mn) (h0 : Ev te0 σ F A (rRef ps) m0) (e : Emb A (oPool Bf ps) g p) :
    EvO (tMeth C mn (spSo (fun v => arOne (rV v)) Bf Uo (fun _ => f)) [] E te0 tNil) σ F A Uo (bnd m0 fun k => zmI g p k f) := fun s b s' hm F1 H c O sm ho W Q q => by
  obtain ⟨k, s0, h0m, hm⟩ := bnd_some hm
  obtain ⟨t, t', ht, hf, rfl⟩ := zmI_some hm
  refine h0 s k s0 h0m F1 H c O sm ho W _ fun v F0 H0 c0 s0' o0 W0 r0 => ?_
  obtain ⟨x0, hx, c3, c4, pm, ob, k'⟩ := emb_pool e o0 r0
  obtain ⟨p0, dx, fs, rest, rfl, rfl, hl⟩ := hh.hd ob
  rw [hx] at ht
  cases ht
  have W0' : Wd F0 H0 ((p0, .ins C dx fs) :: (rest ++ (c4 ++ O))) := by
    refine W0.perm ((pm.append_right O).trans ?_)
    simp
  refine ⟨p0, dx, fs, rfl, W0'.hd, hl, ?_⟩
  refine ⟨.ref p0, F0, c4 ++ O, (p0, .ins C dx fs) :: rest, (), _, b, t', ⟨_, rfl, rfl⟩, ob, W0.perm ?_, hf, fun v F3 H3 c5 cb s3 o3 ob3 W3 => ?_⟩
  · rw [← List.append_assoc]; exact pm.append_right O
  · obtain ⟨c', oc, pm2⟩ := k' F3 t' c5 s3 o3
    refine q v F3 H3 c' cb (s0'.trans s3) oc ob3 (W3.perm (List.Perm.append_left cb ?_))
    rw [← List.append_assoc]; exact (pm2.append_right O).symm
end
section
variable {α1 α2 α3 α4 α5 α6 α7 : Type} {R1 : Rl α1} {R2 : Rl α2} {R3 : Rl α3} {R4 : Rl α4} {R5 : Rl α5} {R6 : Rl α6} {R7 : Rl α7} {K : PySem.W.Frag} {F : Hp} {v : V}
theorem go_t5 {i j k l n : Nat} {w : L2.St} {x : α1 × α2 × α3 × α4 × α5} (h : (rTh (arC R1 (arC R2 (arC R3 (arC R4 (arOne R5)))))).r F v x) :
    Go (gTup K 5 (gCons (gName i) (gCons (gName j) (gCons (gName k) (gCons (gName l) (gCons (gName n) gNil)))))) v w F
    (fun σ2 => ∃ v1 v2 v3 v4 v5, R1.r F v1 x.1 ∧ R2.r F v2 x.2.1 ∧ R3.r F v3 x.2.2.1 ∧ R4.r F v4 x.2.2.2.1 ∧ R5.r F v5 x.2.2.2.2 ∧
      σ2 = ((((w.set i (some v1)).set j (some v2)).set k (some v3)).set l (some v4)).set n (some v5)) := fun F1 H O sm W Q q => by
  obtain ⟨p, vs, rfl, hp, v1, _, rfl, r1, v2, _, rfl, r2, v3, _, rfl, r3, v4, _, rfl, r4, v5, rfl, r5⟩ := h
  exact ⟨p, _, rfl, SqT.of (W.sub _ _ (sm _ _ hp)), rfl, v1, _, rfl, v2, _, rfl, v3, _, rfl, v4, _, rfl, v5, _, rfl, rfl, q _ ⟨v1, v2, v3, v4, v5, r1, r2, r3, r4, r5, rfl⟩⟩
theorem go_t7 {i j k l n o u : Nat} {w : L2.St} {x : α1 × α2 × α3 × α4 × α5 × α6 × α7} (h : (rTh (arC R1 (arC R2 (arC R3 (arC R4 (arC R5 (arC R6 (arOne R7)))))))).r F v x) :
    Go (gTup K 7 (gCons (gName i) (gCons (gName j) (gCons (gName k) (gCons (gName l) (gCons (gName n) (gCons (gName o) (gCons (gName u) gNil)))))))) v w F
    (fun σ2 => ∃ v1 v2 v3 v4 v5 v6 v7, R1.r F v1 x.1 ∧ R2.r F v2 x.2.1 ∧ R3.r F v3 x.2.2.1 ∧ R4.r F v4 x.2.2.2.1 ∧ R5.r F v5 x.2.2.2.2.1 ∧ R6.r F v6 x.2.2.2.2.2.1 ∧ R7.r F v7 x.2.2.2.2.2.2 ∧
      σ2 = ((((((w.set i (some v1)).set j (some v2)).set k (some v3)).set l (some v4)).set n (some v5)).set o (some v6)).set u (some v7)) := fun F1 H O sm W Q q => by
  obtain ⟨p, vs, rfl, hp, v1, _, rfl, r1, v2, _, rfl, r2, v3, _, rfl, r3, v4, _, rfl, r4, v5, _, rfl, r5, v6, _, rfl, r6, v7, rfl, r7⟩ := h
  exact ⟨p, _, rfl, SqT.of (W.sub _ _ (sm _ _ hp)), rfl, v1, _, rfl, v2, _, rfl, v3, _, rfl, v4, _, rfl, v5, _, rfl, v6, _, rfl, v7, _, rfl, rfl, q _ ⟨v1, v2, v3, v4, v5, v6, v7, r1, r2, r3, r4, r5, r6, r7, rfl⟩⟩
end
section
variable {S α γ : Type} {U : Rl γ} {K : PySem.W.Frag} {C : Addr} {W : WX} {E : XK} {σ : L2.St} {F : Hp} {A : Ow S} {mn : Str} {te0 : TE} {ps : List V} {m0 : M S Int} {v : V} {j : Nat} {ar : TA}
section
variable {g : S → RunS} {p : S → RunS → S}
theorem ev_run0X {f : M RunS (γ ⊕ Str)} (hl : InsHd (oRun C) C mn) (hv : σ[j]? = some (some v)) (e : Emb A (oRun C v) g p) : Ev (tMeth C mn (spRun0X K C U f) [] E (tVar j) tNil) σ F A U (zm g p (okM f)) := ev_meth0SX hl hv e
theorem ev_run1X {f : Int → M RunS (γ ⊕ Str)} {ma : M S Int} (hl : InsHd (oRun C) C mn) (hv : σ[j]? = some (some v)) (e : Emb A (oRun C v) g p) (h : EvA ar σ F A (arOne rInt) ma) : Ev (tMeth C mn (spRun1X K C U f) [] E (tVar j) ar) σ F A U (bnd ma fun x => zm g p (okM (f x))) := ev_methSX (f := f) hl hv e h
theorem ev_run2X {f : Int → Int → M RunS (γ ⊕ Str)} {ma : M S (Int × Int)} (hl : InsHd (oRun C) C mn) (hv : σ[j]? = some (some v)) (e : Emb A (oRun C v) g p) (h : EvA ar σ F A (arC rInt (arOne rInt)) ma) : Ev (tMeth C mn (spRun2X K C U f) [] E (tVar j) ar) σ F A U (bnd ma fun x => zm g p (okM (f x.1 x.2))) := ev_methSX (f := fun x => f x.1 x.2) hl hv e h
theorem evx_run0 {f : M RunS (γ ⊕ Str)} (hl : InsHd (oRun C) C mn) (hv : σ[j]? = some (some v)) (e : Emb A (oRun C v) g p) : EvX K W (tMethX C mn (spRun0X K C U f) (WE W) (tVar j) tNil) σ F A U (zm g p f) := evx_meth0S hl hv e
theorem evx_run1 {f : Int → M RunS (γ ⊕ Str)} {ma : M S Int} (hl : InsHd (oRun C) C mn) (hv : σ[j]? = some (some v)) (e : Emb A (oRun C v) g p) (h : EvA ar σ F A (arOne rInt) ma) : EvX K W (tMethX C mn (spRun1X K C U f) (WE W) (tVar j) ar) σ F A U (bnd ma fun x => zm g p (f x)) := evx_methS (f := f) hl hv e h
theorem evx_run2 {f : Int → Int → M RunS (γ ⊕ Str)} {ma : M S (Int × Int)} (hl : InsHd (oRun C) C mn) (hv : σ[j]? = some (some v)) (e : Emb A (oRun C v) g p) (h : EvA ar σ F A (arC rInt (arOne rInt)) ma) : EvX K W (tMethX C mn (spRun2X K C U f) (WE W) (tVar j) ar) σ F A U (bnd ma fun x => zm g p (f x.1 x.2)) := evx_methS (f := fun x => f x.1 x.2) hl hv e h
end
section
variable {g : S → List RunS} {p : S → List RunS → S}
theorem ev_runP0X {f : M RunS (γ ⊕ Str)} (hl : InsHd (oRun C) C mn) (h0 : Ev te0 σ F A (rRef ps) m0) (e : Emb A (oPool (oRun C) ps) g p) : Ev (tMeth C mn (spRun0X K C U f) [] E te0 tNil) σ F A U (bnd m0 fun k => zmI g p k (okM f)) := ev_meth0PX hl h0 e
theorem ev_runP1X {f : Int → M RunS (γ ⊕ Str)} {ma : M S Int} (hl : InsHd (oRun C) C mn) (h0 : Ev te0 σ F A (rRef ps) m0) (e : Emb A (oPool (oRun C) ps) g p) (h : EvA ar σ F A (arOne rInt) ma) : Ev (tMeth C mn (spRun1X K C U f) [] E te0 ar) σ F A U (bnd m0 fun k => bnd ma fun x => zmI g p k (okM (f x))) := ev_methPX (f := f) hl h0 e h
theorem ev_runP2X {f : Int → Int → M RunS (γ ⊕ Str)} {ma : M S (Int × Int)} (hl : InsHd (oRun C) C mn) (h0 : Ev te0 σ F A (rRef ps) m0) (e : Emb A (oPool (oRun C) ps) g p) (h : EvA ar σ F A (arC rInt (arOne rInt)) ma) : Ev (tMeth C mn (spRun2X K C U f) [] E te0 ar) σ F A U (bnd m0 fun k => bnd ma fun x => zmI g p k (okM (f x.1 x.2))) := ev_methPX (f := fun x => f x.1 x.2) hl h0 e h
end
end
end T

/-! T44: raising things within others; a try that may return; a new thing handed through a def; a method of a new thing; pop() of pooled lists. -/
namespace T
open PySem L2
section
variable {S S0 S1 T' Z Ω ρ α β γ ι : Type} {R : Rl α} {R' : Rl β} {U : Rl γ} {K : PySem.W.Frag} {C : Addr} {W : WX} {E : XK} {σ : L2.St} {F : Hp} {A : Ow S} {te ta tb : TE} {tt : TT} {t u w : TS} {P : Post Ω} {Q : Post ρ} {v : V} {j : Nat}
/-! raising things within others -/
def bndE {S α β : Type} (mx : M S (α ⊕ Str)) (f : α → M S β) : M S (β ⊕ Str) := fun s => (mx s).bind fun p => match p.1 with
  | .inl x => (f x p.2).map fun q => (.inl q.1, q.2)
  | .inr n => some (.inr n, p.2)
theorem bndE_some {mx : M S (α ⊕ Str)} {f : α → M S β} {s s' : S} {r : β ⊕ Str} (h : bndE mx f s = some (r, s')) : (∃ x s1 y, mx s = some (.inl x, s1) ∧ f x s1 = some (y, s') ∧ r = .inl y) ∨ ∃ n, mx s = some (.inr n, s') ∧ r = .inr n := by
  unfold bndE at h
  cases e : mx s with
  | none => rw [e] at h; cases h
  | some q =>
    obtain ⟨q, s1⟩ := q
    rw [e] at h
    cases q with
    | inl x =>
      obtain ⟨⟨y, s2⟩, e2, h2⟩ := Option.map_eq_some_iff.mp (show (f x s1).map _ = some (r, s') from h)
      cases h2
      exact .inl ⟨x, s1, y, rfl, e2, rfl⟩
    | inr n =>
      cases h
      exact .inr ⟨n, rfl, rfl⟩
theorem evx_op {r : R2} {f : α → β → Option γ} {mx : M S (α ⊕ Str)} {m' : M S β} (hr : VL2 r R R' U f) (ha : EvX K W ta σ F A R mx) (hb : Ev tb σ F A R' m') : EvX K W (tOp r ta tb) σ F A U (bndE mx fun x => bnd m' fun y => lft (f x y)) := fun s b s' hm F1 H c O sm ho W1 Q q => by
  rcases bndE_some hm with ⟨x, s1, y, h1, hm2, rfl⟩ | ⟨n, h1, rfl⟩
  · obtain ⟨z, s2, h2, hm3⟩ := bnd_some hm2
    obtain ⟨h3, rfl⟩ := lft_some hm3
    refine ha s _ s1 h1 F1 H c O sm ho W1 _ fun v1 F2 H2 c2 sm2 o2 W2 r2 => ?_
    refine hb s1 _ _ h2 F2 H2 c2 O (sm.trans sm2) o2 W2 _ fun v2 F3 H3 c3 sm3 o3 W3 r3 => ?_
    exact hr F3 H3 _ v1 v2 x z y W3 (R.mono sm3 r2) r3 h3 Q fun v4 F4 H4 sm4 W4 r4 => q v4 F4 H4 c3 ((sm2.trans sm3).trans sm4) (A.mono sm4 o3) W4 r4
  · exact ha s _ s' h1 F1 H c O sm ho W1 _ q
def EvTX (K : PySem.W.Frag) (W : WX) (tt : TT) (σ : L2.St) (F : Hp) (A : Ow S) (m : M S (Bool ⊕ Str)) : Prop :=
  ∀ s w s', m s = some (w, s') → ∀ F1 H c O, Same F F1 → A.o F1 s c → Wd F1 H (c ++ O) → ∀ Q : Bool → Hp → Prop, (match w with
    | .inl b => ∀ F' H' c', Same F1 F' → A.o F' s' c' → Wd F' H' (c' ++ O) → Q b H'
    | .inr n => ∀ F' H' c', Same F1 F' → A.o F' s' c' → Wd F' H' (c' ++ O) → W (.ref (He.ga K n)) none σ H') → tt σ H Q
theorem etx_test {mx : M S (Bool ⊕ Str)} (h : EvX K W te σ F A rBool mx) : EvTX K W (tTest te) σ F A mx := fun s b s' hm F1 H c O sm ho W1 Q q => by
  refine h s b s' hm F1 H c O sm ho W1 _ ?_
  cases b with
  | inl b => exact fun v F2 H2 c2 s2 o2 W2 r2 => ⟨b, r2, q F2 H2 c2 s2 o2 W2⟩
  | inr n => exact q
/-! a try that may return -/
def pTryF (K : PySem.W.Frag) (W : WX) (A : Ow S) (Sl : Z → Hp → L2.St → Prop) (Sx : Hp → L2.St → Prop) (Q : Post ρ) : Post (Fl (Z × S) ρ ⊕ (Str × S)) where
  p := fun w F O D => match w with
    | .inl (.nx q) => (pNx A Sl).p q F O D
    | .inl (.rt b) => Q.p b F O D
    | .inr q => ∀ F' H' c' σ', Same F F' → A.o F' q.2 c' → Wd F' H' (c' ++ O) → Sx F' σ' → W (.ref (He.ga K q.1)) none σ' H'
  mono := fun {w F F' O D} s h => by
    match w, h with
    | .inl (.nx b), h => exact (pNx A Sl).mono s h
    | .inl (.rt b), h => exact Q.mono s h
    | .inr n, h => exact fun F' H' c' σ' s' => h F' H' c' σ' (s.trans s')
theorem b_nxTF {X : Ow S1} {π : S → S1} {Sl : Z → Hp → L2.St → Prop} {Sx : Hp → L2.St → Prop} {z : Z} (pr : Pr A X π) (h : ∀ F', Same F F' → Sl z F' σ) : B tNext σ F A (pTryF K W X Sl Sx Q) (fun s => some (.inl (.nx (z, π s)))) := fun s w hm F1 H c O sm ho W1 D q => by
  cases hm
  obtain ⟨c3, o3, W3⟩ := Wd.pr pr ho W1
  exact q F1 H c3 σ (SameR _) o3 W3 (h F1 sm)
theorem b_ifRetX [RtO Q] {Sl : Z → Hp → L2.St → Prop} {Sx : Hp → L2.St → Prop} {mx : M S (Bool ⊕ Str)} {mt : S → Option ρ} {g : S → Option (Fl (Z × S) ρ ⊕ (Str × S))} (hx : ∀ F', Same F F' → Sx F' σ) (hc : EvTX K W tt σ F A mx) (ht : B t σ F A Q mt) (hw : B w σ F A (pTryF K W A Sl Sx Q) g) :
    B (tSeq (tIfS tt t tNext) w) σ F A (pTryF K W A Sl Sx Q) (bndX (fun n s => .inr (n, s)) mx fun b => bif b then (fun s => (mt s).map fun r => .inl (.rt r)) else g) := fun s r hm F1 H c O sm ho W1 D q => by
  rcases bndX_some hm with ⟨b, s1, h1, hm⟩ | ⟨n, s1, h1, rfl⟩
  · refine hc s _ s1 h1 F1 H c O sm ho W1 _ fun F2 H2 c2 s2 o2 W2 => ?_
    cases b with
    | true =>
      obtain ⟨r', hr, rfl⟩ := Option.map_eq_some_iff.mp (show (mt s1).map _ = some r from hm)
      exact iteT (ht s1 r' hr F2 H2 c2 O (sm.trans s2) o2 W2 _ (ro_of Q D (Q.mono s2 q)))
    | false => exact iteF (hw s1 r hm F2 H2 c2 O (sm.trans s2) o2 W2 D ((pTryF K W A Sl Sx Q).mono s2 q))
  · refine hc s _ s1 h1 F1 H c O sm ho W1 _ fun F2 H2 c2 s2 o2 W2 => ?_
    exact q F2 H2 c2 σ s2 o2 W2 (hx F2 (sm.trans s2))
def tryRF {S Z Ω ρ : Type} (cat : List Str) (emb : ρ → Ω) (mb : S → Option (Fl (Z × S) ρ ⊕ (Str × S))) (mh : S → Option ρ) (f : Z → S → Option Ω) : S → Option Ω := fun s => (mb s).bind fun w => match w with
  | .inl (.nx p) => f p.1 p.2
  | .inl (.rt r) => some (emb r)
  | .inr q => if q.1 ∈ cat then (mh q.2).map emb else none
theorem b_tryRF {tb : WX → TS} {th : TS} {C : Str} {cat : List Str} {Sl : Z → Hp → L2.St → Prop} {Sx : Hp → L2.St → Prop} {Wout : WX} {mb : S → Option (Fl (Z × S) ρ ⊕ (Str × S))} {mh : S → Option ρ} {f : Z → S → Option Ω} {emb : ρ → Ω} (hP : ∀ w F O (D : Ends) mid, P.p (emb w) F O D → Q.p w F O { D with nx := mid }) (hcat : ∀ n ∈ cat, PySem.W.exmOne K (.ref (He.ga K n)) (.ref (He.ga K C)) = some true)
    (hb : ∀ W, B (tb W) σ F A (pTryF K W A Sl Sx Q) mb) (hh : ∀ F' σ', Same F F' → Sx F' σ' → B th σ' F' A Q mh)
    (k : ∀ z F' σ', Same F F' → Sl z F' σ' → B u σ' F' A P (f z)) : B (Evl.tCut (fun D σ H => tb (L2.wOnly K (.ref (He.ga K C)) (fun _ _ _ => th) Wout D) D σ H) u) σ F A P (tryRF cat emb mb mh f) := fun s r hm F1 H c O sm ho W1 D q => by
  unfold tryRF at hm
  cases e0 : mb s with
  | none => rw [e0] at hm; cases hm
  | some w =>
    rw [e0] at hm
    match w, e0, hm with
    | .inl (.nx p), e0, hm =>
      refine ⟨fun σ' H' => ∃ F' c', Same F1 F' ∧ A.o F' p.2 c' ∧ Wd F' H' (c' ++ O) ∧ Sl p.1 F' σ', ?_, fun σ' H' ⟨F', c', s', o', W', sl⟩ => k p.1 F' σ' (sm.trans s') sl p.2 r hm F' H' c' O (SameR _) o' W' D (P.mono s' q)⟩
      exact hb _ s (.inl (.nx p)) e0 F1 H c O sm ho W1 _ fun F3 H3 c3 σ3 s3 o3 W3 sl => ⟨F3, c3, s3, o3, W3, sl⟩
    | .inl (.rt b), e0, hm =>
      obtain rfl : emb b = r := Option.some.inj hm
      refine ⟨fun _ _ => False, ?_, fun _ _ h => h.elim⟩
      exact hb _ s (.inl (.rt b)) e0 F1 H c O sm ho W1 _ (hP _ _ _ _ _ q)
    | .inr (n, s3), e0, hm =>
      have hn : n ∈ cat := by
        by_cases hn : n ∈ cat
        · exact hn
        · simp [hn] at hm
      simp [hn] at hm
      obtain ⟨r', hr', rfl⟩ := hm
      refine ⟨fun _ _ => False, ?_, fun _ _ h => h.elim⟩
      refine hb _ s (.inr (n, s3)) e0 F1 H c O sm ho W1 _ ?_
      intro F3 H3 c3 σ3 sm3 o3 W3 sx
      refine ⟨true, hcat n hn, fun _ a na => ?_, fun q => nomatch q⟩
      exact hh F3 σ3 (sm.trans sm3) sx s3 r' hr' F3 H3 c3 O (SameR _) o3 W3 _ (Q.mono sm3 (hP _ _ _ _ _ q))
/-! a new thing handed through a def that returns it -/
def spTh (T : V → Ar α) (Bf : V → Ow S1) (f : α → M S1 Unit) : Sp := fun vs H Q _ => ∃ (i : V) (F : Hp) (O c : Ch) (x : α) (s s' : S1), (T i).r F vs x ∧ (Bf i).o F s c ∧ Wd F H (c ++ O) ∧ f x s = some ((), s') ∧ ∀ F' H' c', Same F F' → (Bf i).o F' s' c' → Wd F' H' (c' ++ O) → Q i H'
theorem ok_Th {Q : VK} {t : TS} {F H : Hp} {c O : Ch} {s s' : S} {m : M S Unit} {v : V} (W : Wd F H (c ++ O)) (ho : A.o F s c) (hm : m s = some ((), s')) (q : ∀ F' H' c', Same F F' → A.o F' s' c' → Wd F' H' (c' ++ O) → Q v H') (h : B t σ F A (pRt A (rV v)) m) : t { nx := fun _ H' => Q .non H', rt := Q } σ H :=
  h s ((), s') hm F H c O (SameR _) ho W _ fun v' F' H' c' s o w r => by rw [show v' = v from r]; exact q F' H' c' s o w
theorem eo_thru {Bf : V → Ow S1} {X : Ar α} {f : α → M S1 Unit} {ar : TA} {m1 : M S S1} {ma : M S α} (h1 : EvO te σ F A Bf m1) (h2 : ∀ v, EvA ar σ F (star A (Bf v)) X (fun s => (ma s.1).map fun q => (q.1, (q.2, s.2)))) : EvO (tCall (spTh (fun v => arC (rV v) X) Bf (fun x => f x.2)) [] E (tCons te ar)) σ F A Bf (bnd m1 fun r => bnd ma fun x => lft ((f x r).map (·.2))) := fun s b s' hm F1 H c O sm ho W1 Q q => by
  obtain ⟨r, s1, g1, hm⟩ := bnd_some hm
  obtain ⟨x, s2, g2, hm⟩ := bnd_some hm
  obtain ⟨g3, rfl⟩ := lft_some hm
  obtain ⟨⟨y, r2⟩, g4, g5⟩ := Option.map_eq_some_iff.mp g3
  cases g5
  refine h1 s r s1 g1 F1 H c O sm ho W1 _ fun v F2 H2 c2 cb sm2 o2 ob W2 => ?_
  have W2' : Wd F2 H2 ((c2 ++ cb) ++ O) := W2.perm (by
    rw [← List.append_assoc, List.append_assoc c2, List.append_assoc cb]
    have := (List.perm_append_comm (l₁ := cb) (l₂ := c2)).append_right O
    simpa using this)
  refine h2 v (s1, r) x (s', r) (by show (ma s1).map _ = _; rw [g2]; rfl) F2 H2 (c2 ++ cb) O (sm.trans sm2) ⟨c2, cb, rfl, o2, ob⟩ W2' _ fun vs F3 H3 c3 sm3 ⟨c4, c5, e3, o4, o5⟩ W3 r3 => ?_
  subst e3
  rw [List.append_nil]
  refine ⟨v, F3, c4 ++ O, c5, ((), x), r, r2, ⟨v, _, rfl, rfl, r3⟩, o5, W3.perm ?_, g4, fun F4 H4 c6 sm4 o6 W4 => ?_⟩
  · have := (List.perm_append_comm (l₁ := c4) (l₂ := c5)).append_right O
    simpa using this
  · exact q v F4 H4 c4 c6 ((sm2.trans sm3).trans sm4) (A.mono sm4 o4) o6 W4
/-- a method that returns a new thing, of a new thing -/
theorem eo_methN {T γ : Type} {mn : Str} {Bf : V → Ow T} {Uo : V → Ow γ} {f : M T γ} {m1 : M S T} (hh : InsHd Bf C mn) (h1 : EvO te σ F A Bf m1) :
    EvO (tMeth C mn (spSo (fun v => arOne (rV v)) Bf Uo (fun _ => f)) [] E te tNil) σ F A Uo (bnd m1 fun r => lft ((f r).map (·.1))) := fun s b s' hm F1 H c O sm ho W1 Q q => by
  obtain ⟨r, s1, g1, hm⟩ := bnd_some hm
  obtain ⟨g3, rfl⟩ := lft_some hm
  obtain ⟨⟨y, r2⟩, g4, g5⟩ := Option.map_eq_some_iff.mp g3
  cases g5
  refine h1 s r s' g1 F1 H c O sm ho W1 _ fun v F2 H2 c2 cb sm2 o2 ob W2 => ?_
  obtain ⟨p0, dx, fs, rest, rfl, rfl, hl⟩ := hh.hd ob
  refine ⟨p0, dx, fs, rfl, W2.hd, hl, ?_⟩
  refine ⟨.ref p0, F2, c2 ++ O, (p0, .ins C dx fs) :: rest, (), r, y, r2, ⟨_, rfl, rfl⟩, ob, W2, g4, fun v3 F3 H3 c5 cb3 s3 o3 o4 W3 => ?_⟩
  refine q v3 F3 H3 c2 cb3 (sm2.trans s3) (A.mono s3 o2) o4 (W3.sublist ?_)
  exact List.Sublist.append (List.Sublist.refl _) (List.sublist_append_right c5 (c2 ++ O))
end
end T

/-! T45: pop() of a list in a pool. -/
namespace T
open PySem L2
section
variable {S α β Ω : Type} {R : Rl α} {K : PySem.W.Frag} {σ : L2.St} {F : Hp} {A : Ow S} {te te0 : TE} {ps : List V} {g : S → List (List α)} {p : S → List (List α) → S} {m0 : M S Int}
/-- the last of the k-th list is taken away -/
def popP (g : S → List (List α)) (p : S → List (List α) → S) (k : Int) : M S α := fun s => ((g s)[k.toNat]?).bind fun xs => xs.getLast?.map fun y => (y, p s ((g s).set k.toNat xs.dropLast))
theorem ev_popP (h0 : Ev te0 σ F A (rRef ps) m0) (e : Emb A (oPool (oLst R) ps) g p) : Ev (tBM0 K "list" rPop te0) σ F A R (bnd m0 fun k => popP g p k) := fun s b s' hm F1 H c O sm ho W Q q => by
  obtain ⟨k, s0, h0m, hm⟩ := bnd_some hm
  unfold popP at hm
  obtain ⟨xs, hx, hm⟩ := Option.bind_eq_some_iff.mp hm
  obtain ⟨y, h2, h3⟩ := Option.map_eq_some_iff.mp hm
  cases h3
  refine h0 s k _ h0m F1 H c O sm ho W _ fun v F0 H0 c0 sm0 o0 W0 r0 => ?_
  obtain ⟨l, vs, xs', c3, rfl, hx', rp, W3, kk⟩ := emb_poolL e o0 W0 r0
  rw [hx] at hx'; cases hx'
  refine ⟨Or.inl ⟨rfl, vs, SqL.of W3.hd⟩, ?_⟩
  rw [List.getLast?_eq_getElem?] at h2
  obtain ⟨z, hz, rz⟩ := paired_get' rp h2
  rw [← paired_len rp] at hz
  obtain ⟨c4, o4, W4⟩ := kk F0 vs.dropLast _ (SameR _) (paired_dropLast rp) _ W3.set
  refine ⟨l, vs, z, rfl, rfl, W3.hd, hz, ?_⟩
  exact q z F0 _ c4 sm0 o4 W4 rz
end
end T

/-! T46: len(set(..)) of tuples of whole numbers; in and not in among data; max of a list. -/
namespace T
open PySem PySem.Spec PyProof.Rows L2
section
variable {X : Cx}
def tLenSetT (K : PySem.W.Frag) (ta : TE) : TE := fun σ H Q => ta σ H fun x H1 => ∃ (l : Addr) (ks : List (Addr × List Int)), x = V.ref l ∧ SqL K H1 l (ks.map fun p => V.ref p.1) ∧ (∀ p ∈ ks, SqT K H1 p.1 (p.2.map V.int)) ∧ ks.length < 64 ∧
  ∀ L : List (List Int), L.Nodup → (∀ z, z ∈ L ↔ z ∈ ks.map (·.2)) → Q (.int L.length) H1
theorem pe_lenSetT {a : Expr} {ta : TE} {p p2 q pos : Pos} (hu : X.A.units + 64 < cLine) (hc : X.calm = true) (hg : Gl X "len") (hm : X.mg "len" = none) (hg2 : Gl X "set") (hm2 : X.mg "set" = none) (ha : PE X a ta)
    (na : starEach [a] X.env = (false, eval a X.env) :: starEach [] X.env := by rfl) : PE X (.Call (.Name "len" p) [.Call (.Name "set" p2) [a] [] q] [] pos) (tLenSetT X.K ta) := by
  refine ⟨fun pins s σ H Q I h => ?_⟩
  refine Call_ (ld_blt I hg hm PySem.boot_len ?_)
  refine PyProof.Rows.callWith_builtin1 (PyProof.Rows.args_cons ?_ rfl) rfl rfl
  refine Call_ (ld_blt I hg2 hm2 PyProof.Rows.boot_set ?_)
  refine PyProof.Rows.callWith_type1 (PyProof.Rows.args_cons (thn (ha.run pins s σ H _ I h) fun v s1 ⟨x, H1, I1, r1, q1⟩ => PyProof.Rows.args_nil ?_) na) na rfl
  obtain ⟨l, ks, rfl, hl, hk, hf, q⟩ := q1
  cases r1
  obtain ⟨its, rv, pl, hz⟩ := I1.list hl
  refine call_set_tups (P := X.prog) (w := X.w) ks (I1.ok.hd hc) pl.isList (by simpa using refs_of_vals rv) (fun p hp => I1.isT (hk p hp)) hf (by omega) fun h' tk L es ep t R g k => ?_
  refine PyProof.Rows.args_nil ?_
  obtain ⟨o, ho, hex, hd⟩ := R.ob
  have hn : es.size = L.length := SetTR.size (s := { s1 with heap := h', toks := tk }) R
  have hft : t.fits es.size = true := SetTR.fits (s := { s1 with heap := h', toks := tk }) R
  have hfew := R.few
  have I2 : Inv X pins σ H1 { s1 with heap := h', toks := tk } := I1.kept fun b o e => k b o e
  refine call_len_set ho hex hd hft (by rw [hn] <;> omega) ⟨.int (L.map (·.2)).length, H1, I2.tok _, ⟨_, by rw [hn, List.length_map]⟩, q _ R.nd fun z => ?_⟩
  constructor
  · intro hz
    obtain ⟨p, hp, rfl⟩ := List.mem_map.mp hz
    exact List.mem_map.mpr ⟨p, List.mem_of_mem_take (g.sub p hp), rfl⟩
  · intro hz
    obtain ⟨p, hp, rfl⟩ := List.mem_map.mp hz
    exact g.all p (by rw [List.take_length]; exact hp)
theorem _root_.L2.Room.units65 {k : Nat} {A : Around} (r : L2.Room k A) : A.units + 65 < cLine := by have := r.un; omega
theorem kop_inDd {K : PySem.W.Frag} (hu : X.A.units + 65 < cLine) (e : X.K = K := by rfl) : OpR X (compareOp .In) (L2.rInD K) := by subst e; exact L2.op_inD hu
theorem kop_niDd {K : PySem.W.Frag} (hu : X.A.units + 65 < cLine) (e : X.K = K := by rfl) : OpR X (compareOp .NotIn) (L2.rNotInD K) := by subst e; exact L2.op_notInD hu
theorem kc_max {K : PySem.W.Frag} (hc : X.calm = true) (e : X.K = K := by rfl) : CallR X (.builtin "max") (rMax K) := by subst e; exact cr_max hc
end
/-- each one once -/
def uniq : List (List Int) → List (List Int)
  | [] => []
  | x :: xs => if x ∈ xs then uniq xs else x :: uniq xs
theorem uniq_mem : ∀ (xs : List (List Int)) (z : List Int), z ∈ uniq xs ↔ z ∈ xs
  | [], z => Iff.rfl
  | x :: xs, z => by
    unfold uniq
    split
    · rename_i h
      rw [uniq_mem xs, List.mem_cons]
      exact ⟨Or.inr, fun q => q.elim (fun e => by rw [e]; exact h) id⟩
    · rw [List.mem_cons, List.mem_cons, uniq_mem xs]
theorem uniq_nodup : ∀ xs : List (List Int), (uniq xs).Nodup
  | [] => List.nodup_nil
  | x :: xs => by
    unfold uniq
    split
    · exact uniq_nodup xs
    · rename_i h
      exact List.nodup_cons.mpr ⟨fun q => h ((uniq_mem xs x).mp q), uniq_nodup xs⟩
def nDist (xs : List (List Int)) : Option Int := if xs.length < 64 then some ((uniq xs).length : Int) else none
section
variable {S α β : Type} {R : Rl α} {R' : Rl β} {K : PySem.W.Frag} {σ : L2.St} {F : Hp} {A : Ow S} {te te0 : TE} {m : M S β} {v : V} {j : Nat}
theorem tups_of {F : Hp} : ∀ {vs : List V} {xs : List (List Int)}, Paired ((rTup rInt).r F) vs xs → ∃ ks : List (Addr × List Int), vs = ks.map (fun p => V.ref p.1) ∧ xs = ks.map (·.2) ∧ ∀ p ∈ ks, F p.1 = some (.tup (p.2.map V.int))
  | _, _, .nil => ⟨[], rfl, rfl, fun _ h => nomatch h⟩
  | _, x :: _, .cons ⟨p, us, e, hp, rp⟩ t => by
    obtain ⟨ks, e1, e2, e3⟩ := tups_of t
    refine ⟨(p, x) :: ks, by rw [e, e1]; rfl, by rw [e2]; rfl, fun q hq => ?_⟩
    rcases List.mem_cons.mp hq with rfl | hq
    · have : us = x.map V.int := vs_int rp
      rw [hp, this]
    · exact e3 q hq
theorem ev_lenSetT {ml : M S (List (List Int))} (he : Ev te σ F A (rLst (rTup rInt)) ml) : Ev (tLenSetT K te) σ F A rInt (bnd ml fun xs => lft (nDist xs)) := fun s b s' hm F1 H c O sm ho W Q q => by
  obtain ⟨xs, s1, h1, hm⟩ := bnd_some hm
  obtain ⟨h2, rfl⟩ := lft_some hm
  unfold nDist at h2
  split at h2
  · rename_i hl
    cases h2
    refine he s xs s' h1 F1 H c O sm ho W _ fun v F2 H2 c2 sm2 o2 W2 ⟨p, vs, ev, hp, rp⟩ => ?_
    obtain ⟨ks, e1, e2, e3⟩ := tups_of rp
    subst e1 e2
    refine ⟨p, ks, ev, SqL.of (W2.sub _ _ hp), fun z hz => SqT.of (W2.sub _ _ (e3 z hz)), by simpa using hl, fun L nd hm => ?_⟩
    have : L.Perm (uniq (ks.map (·.2))) := (List.perm_ext_iff_of_nodup nd (uniq_nodup _)).mpr fun z => by rw [hm, uniq_mem]
    exact q _ F2 H2 c2 sm2 o2 W2 (by rw [this.length_eq]; rfl)
  · cases h2
def inDd (d : PyData) (ds : List PyData) : Option Bool := if SeqAt.shaped d = true ∧ SeqAt.shaped (.list ds) = true then some (ds.any fun z => PyData.eqv z d) else none
theorem vl_inDd (D : RD R) (E : RD R') : VL2 (L2.rInD K) R (rLst R') rBool (fun a b => inDd (D.d a) (b.map E.d)) := fun F H O x y a b c W hx hy hf Q q => by
  simp only [inDd] at hf; split at hf
  · rename_i h; cases hf; exact ⟨_, _, Dp.mono W.sub (D.dp hx), Dp.mono W.sub ((dLst E).dp hy), h.1, h.2, q _ F H (SameR _) W rfl⟩
  · cases hf
theorem vl_niDd (D : RD R) (E : RD R') : VL2 (L2.rNotInD K) R (rLst R') rBool (fun a b => (inDd (D.d a) (b.map E.d)).map (!·)) := fun F H O x y a b c W hx hy hf Q q => by
  obtain ⟨z, hf, e⟩ := Option.map_eq_some_iff.mp hf
  simp only [inDd] at hf; split at hf
  · rename_i h; cases hf; subst e; exact ⟨_, _, Dp.mono W.sub (D.dp hx), Dp.mono W.sub ((dLst E).dp hy), h.1, h.2, q _ F H (SameR _) W rfl⟩
  · cases hf
theorem ev_inDdO {g : S → List α} {p : S → List α → S} (E : RD R') (D : RD R) (he : Ev te σ F A R' m) (hv : σ[j]? = some (some v)) (e : Emb A (oLst R v) g p) : Ev (tOp (L2.rInD K) te (tVar j)) σ F A rBool (bnd m fun y => gtL g fun xs => inDd (E.d y) (xs.map D.d)) := fun s b s' hm F1 H c O sm ho W Q q => by
  obtain ⟨y, s1, h1, hm⟩ := bnd_some hm
  obtain ⟨h2, rfl⟩ := gtL_some hm
  refine he s y s' h1 F1 H c O sm ho W _ fun vy F2 H2 c2 sm2 o2 W2 r2 => ⟨v, hv, ?_⟩
  simp only [inDd] at h2; split at h2
  · rename_i h; cases h2
    exact ⟨_, _, Dp.mono W2.sub (E.dp r2), dp_own D e o2 W2, h.1, h.2, q _ F2 H2 c2 sm2 o2 W2 rfl⟩
  · cases h2
theorem ev_niDdO {g : S → List α} {p : S → List α → S} (E : RD R') (D : RD R) (he : Ev te σ F A R' m) (hv : σ[j]? = some (some v)) (e : Emb A (oLst R v) g p) : Ev (tOp (L2.rNotInD K) te (tVar j)) σ F A rBool (bnd m fun y => gtL g fun xs => (inDd (E.d y) (xs.map D.d)).map (!·)) := fun s b s' hm F1 H c O sm ho W Q q => by
  obtain ⟨y, s1, h1, hm⟩ := bnd_some hm
  obtain ⟨h2, rfl⟩ := gtL_some hm
  refine he s y s' h1 F1 H c O sm ho W _ fun vy F2 H2 c2 sm2 o2 W2 r2 => ⟨v, hv, ?_⟩
  obtain ⟨z, h2, e⟩ := Option.map_eq_some_iff.mp h2
  simp only [inDd] at h2; split at h2
  · rename_i h; cases h2; subst e
    exact ⟨_, _, Dp.mono W2.sub (E.dp r2), dp_own D e o2 W2, h.1, h.2, q _ F2 H2 c2 sm2 o2 W2 rfl⟩
  · cases h2
theorem vl_maxL : VLc (rMax K) (arOne (rLst rInt)) rInt (fun xs => xs.max?) := fun F H O xs a c W ⟨v, e, p, vs, ev, hp, rp⟩ hf Q q => by
  subst e ev
  have e2 : vs = a.map V.int := vs_int rp
  subst e2
  have hm := List.max?_eq_some_iff.mp hf
  refine ⟨p, a, rfl, SqL.of (W.sub _ _ hp), List.length_pos_of_mem hm.1, fun m m1 m2 => ?_⟩
  have : m = c := Int.le_antisymm (hm.2 m m1) (m2 c hm.1)
  subst this
  exact q _ F H (SameR _) W rfl
end
end T

/-! P2: plain laws of mirrors with pools. -/
namespace T
open PySem L2
section
variable {S T' β Ω : Type} {s : S}
theorem tot_zmI {g : S → List T'} {p : S → List T' → S} {k : Int} {m : M T' β} {Q : β × S → Prop} : Tot (zmI g p k m) s Q ↔ ∃ t, (g s)[k.toNat]? = some t ∧ Tot m t (fun w => Q (w.1, p s ((g s).set k.toNat w.2))) := by
  unfold Tot zmI
  constructor
  · rintro ⟨w, e, q⟩
    cases h : (g s)[k.toNat]? with
    | none => rw [h] at e; cases e
    | some t =>
      rw [h] at e
      cases h2 : m t with
      | none => simp [h2] at e
      | some c => simp [h2] at e; subst e; exact ⟨t, rfl, c, h2, q⟩
  · rintro ⟨t, h, c, e, q⟩; exact ⟨_, by rw [h]; simp only [Option.bind]; rw [e]; rfl, q⟩
theorem tot_wp {f : S × List T' → Option Ω} {Q : Ω → Prop} : Tot (wp f) s Q ↔ Tot f (s, []) Q := Iff.rfl
theorem tot_psh {g : S → List T'} {p : S → List T' → S} {f : Int → S → Option Ω} {x : T'} {Q : Ω → Prop} : Tot (psh g p f x) s Q ↔ Tot (f (g s).length) (p s (g s ++ [x])) Q := Iff.rfl
theorem tot_pshL {g : S → List T'} {p : S → List T' → S} {f : List Int → S → Option Ω} {xs : List T'} {Q : Ω → Prop} : Tot (pshL g p f xs) s Q ↔ Tot (f (rngL (g s).length xs.length)) (p s (g s ++ xs)) Q := Iff.rfl
theorem tot_fthnF {Z ρ κ : Type} {m : S → Option (Fl (Z × S) ρ)} {h : Z → S → Option (Fl κ ρ)} {Q : Fl κ ρ → Prop} : Tot (fthnF m h) s Q ↔ Tot m s (fun r => match r with | .nx q => Tot (h q.1) q.2 Q | .rt b => Q (.rt b)) := by
  unfold Tot fthnF
  constructor
  · rintro ⟨w, e, q⟩
    cases h1 : m s with
    | none => rw [h1] at e; cases e
    | some c =>
      rw [h1] at e
      cases c with
      | nx z => exact ⟨_, rfl, w, e, q⟩
      | rt b => cases e; exact ⟨_, rfl, q⟩
  · rintro ⟨c, e, q⟩
    cases c with
    | nx z => obtain ⟨w, e2, q⟩ := q; exact ⟨w, by rw [e]; exact e2, q⟩
    | rt b => exact ⟨.rt b, by rw [e]; rfl, q⟩
theorem tot_fd0 {Z α : Type} {f : Z → α → M S Z} {z : Z} {Q : Z × S → Prop} : Tot (fd f z []) s Q ↔ Q (z, s) := tot_ret
theorem tot_fdc {Z α : Type} {f : Z → α → M S Z} {z : Z} {x : α} {xs : List α} {Q : Z × S → Prop} : Tot (fd f z (x :: xs)) s Q ↔ Tot (f z x) s (fun w => Tot (fd f w.1 xs) w.2 Q) := tot_bnd
theorem tot_mp0 {α : Type} {f : α → M S β} {Q : List β × S → Prop} : Tot (mp f []) s Q ↔ Q ([], s) := tot_ret
theorem tot_mpc {α : Type} {f : α → M S β} {x : α} {xs : List α} {Q : List β × S → Prop} : Tot (mp f (x :: xs)) s Q ↔ Tot (f x) s (fun w => Tot (mp f xs) w.2 (fun u => Q (w.1 :: u.1, u.2))) := by
  show Tot (bnd (f x) fun y => bnd (mp f xs) fun ys => ret (y :: ys)) s Q ↔ _
  rw [tot_bnd]
  simp only [tot_bnd, tot_ret]
theorem rng0_2 : rngL ((([] : List T').length : Nat) : Int) 2 = [0, 1] := rfl
theorem rng0_3 : rngL ((([] : List T').length : Nat) : Int) 3 = [0, 1, 2] := rfl
end
end T
namespace T
open PySem L2
/-! data equal to itself -/
structure DS {α : Type} {R : Rl α} (D : RD R) (n : Nat) : Prop where
  lay : ∀ x, (D.d x).canLay0 = true
  dep : ∀ x, (D.d x).depth ≤ n
  rf : ∀ x, PyData.eqv (D.d x) (D.d x) = true
theorem ds_ib : DS dIB 1 := ⟨fun x => by cases x <;> rfl, fun x => by cases x <;> simp [dIB, PyData.depth], fun x => by cases x <;> simp [dIB, PyData.eqv]⟩
theorem DE.ds {α : Type} {R : Rl α} {D : RD R} {n : Nat} (h : DE D n) : DS D n := ⟨h.lay, h.dep, fun x => (h.eq x x).mpr rfl⟩
theorem ds_tup {α : Type} {R : Rl α} {D : RD R} {n : Nat} (h : DS D n) : DS (dTup D) (n + 1) := by
  refine ⟨fun xs => ?_, fun xs => ?_, fun xs => ?_⟩
  · show PyData.canLay0 (.tuple (xs.map D.d)) = true
    rw [PyData.canLay0]
    induction xs with
    | nil => rfl
    | cons x xs ih => rw [List.map_cons, PyData.canLayAll0, h.lay x, ih]; rfl
  · show PyData.depth (.tuple (xs.map D.d)) ≤ n + 1
    rw [PyData.depth]
    have : PyData.depthAll (xs.map D.d) ≤ n := by
      induction xs with
      | nil => simp [PyData.depthAll]
      | cons x xs ih => rw [List.map_cons, PyData.depthAll]; have := h.dep x; omega
    omega
  · show PyData.eqv (.tuple (xs.map D.d)) (.tuple (xs.map D.d)) = true
    rw [PyData.eqv]
    induction xs with
    | nil => simp [PyData.eqvAll]
    | cons x xs ih => rw [List.map_cons, PyData.eqvAll, Bool.and_eq_true, h.rf, ih]; simp
theorem neD_refl {α : Type} {R : Rl α} {D : RD R} {n : Nat} (h : DS D n) (l : n ≤ 64) (x : α) : neD (D.d x) (D.d x) = some false := by
  have s : SeqAt.shaped (D.d x) = true := by
    unfold SeqAt.shaped; rw [h.lay, decide_eq_true (Nat.le_trans (h.dep x) l)]; rfl
  unfold neD; rw [if_pos ⟨s, s⟩, h.rf x]; rfl
end T
namespace T
open PySem L2
section
variable {S T' β Ω : Type} {s : S}
theorem tot_gtI {g : S → List T'} {k : Int} {f : T' → Option β} {Q : β × S → Prop} : Tot (gtI g k f) s Q ↔ ∃ t, (g s)[k.toNat]? = some t ∧ ∃ b, f t = some b ∧ Q (b, s) := by
  unfold Tot gtI
  constructor
  · rintro ⟨w, e, q⟩
    cases h : (g s)[k.toNat]? with
    | none => rw [h] at e; cases e
    | some t =>
      rw [h] at e
      cases h2 : f t with
      | none => simp [h2] at e
      | some c => simp [h2] at e; subst e; exact ⟨t, rfl, c, h2, q⟩
  · rintro ⟨t, h, c, e, q⟩; exact ⟨_, by rw [h]; simp only [Option.bind]; rw [e]; rfl, q⟩
theorem tot_upI {g : S → List T'} {p : S → List T' → S} {k : Int} {f : T' → Option T'} {Q : Unit × S → Prop} : Tot (upI g p k f) s Q ↔ ∃ t, (g s)[k.toNat]? = some t ∧ ∃ t', f t = some t' ∧ Q ((), p s ((g s).set k.toNat t')) := by
  unfold Tot upI
  constructor
  · rintro ⟨w, e, q⟩
    cases h : (g s)[k.toNat]? with
    | none => rw [h] at e; cases e
    | some t =>
      rw [h] at e
      cases h2 : f t with
      | none => simp [h2] at e
      | some c => simp [h2] at e; subst e; exact ⟨t, rfl, c, h2, q⟩
  · rintro ⟨t, h, c, e, q⟩; exact ⟨_, by rw [h]; simp only [Option.bind]; rw [e]; rfl, q⟩
end
end T
namespace T
open PySem L2
section
variable {S α Z Ω β : Type} {s : S}
theorem tot_bndX {xz : Str → S → Ω} {m : M S (α ⊕ Str)} {f : α → S → Option Ω} {Q : Ω → Prop} : Tot (bndX xz m f) s Q ↔ Tot m s (fun w => match w.1 with
    | .inl x => Tot (f x) w.2 Q
    | .inr n => Q (xz n w.2)) := by
  unfold Tot bndX
  constructor
  · rintro ⟨w, e, q⟩
    cases h : m s with
    | none => rw [h] at e; cases e
    | some p =>
      obtain ⟨p, s1⟩ := p
      rw [h] at e
      cases p with
      | inl x => exact ⟨_, rfl, w, e, q⟩
      | inr n => cases e; exact ⟨_, rfl, q⟩
  · rintro ⟨⟨p, s1⟩, h, q⟩
    cases p with
    | inl x => obtain ⟨w, e, q⟩ := q; exact ⟨w, by rw [h]; exact e, q⟩
    | inr n => exact ⟨_, by rw [h]; rfl, q⟩
theorem tot_tryM {cat : List Str} {zx : Str → Z} {m : S → Option ((Z × S) ⊕ (Str × S))} {Q : Z × S → Prop} : Tot (tryM cat zx m) s Q ↔ Tot m s (fun w => match w with
    | .inl q => Q q
    | .inr q => q.1 ∈ cat ∧ Q (zx q.1, q.2)) := by
  unfold Tot tryM
  constructor
  · rintro ⟨w, e, q⟩
    cases h : m s with
    | none => rw [h] at e; cases e
    | some p =>
      rw [h] at e
      cases p with
      | inl x => cases e; exact ⟨_, rfl, q⟩
      | inr n =>
        by_cases hn : n.1 ∈ cat
        · simp [hn] at e; subst e; exact ⟨_, rfl, hn, q⟩
        · simp [hn] at e
  · rintro ⟨p, h, q⟩
    cases p with
    | inl x => exact ⟨x, by rw [h]; rfl, q⟩
    | inr n => obtain ⟨hn, q⟩ := q; exact ⟨_, by rw [h]; simp [hn], q⟩
theorem okO_inl {γ : Type} {o : Option (γ ⊕ Str)} {b : γ} (h : o = some (.inl b)) : okO o = some b := by rw [h]; rfl
end
/-! data of sums -/
theorem ds_sum {α β : Type} {R : Rl α} {R' : Rl β} {D : RD R} {D' : RD R'} {n : Nat} (h : DS D n) (h' : DS D' n) : DS (dSum D D') n := ⟨fun x => match x with
  | .inl a => h.lay a
  | .inr a => h'.lay a, fun x => match x with
  | .inl a => h.dep a
  | .inr a => h'.dep a, fun x => match x with
  | .inl a => h.rf a
  | .inr a => h'.rf a⟩
theorem ds_lst {α : Type} {R : Rl α} {D : RD R} {n : Nat} (h : DS D n) : DS (dLst D) (n + 1) := by
  refine ⟨fun xs => ?_, fun xs => ?_, fun xs => ?_⟩
  · show PyData.canLay0 (.list (xs.map D.d)) = true
    rw [PyData.canLay0]
    induction xs with
    | nil => rfl
    | cons x xs ih => rw [List.map_cons, PyData.canLayAll0, h.lay x, ih]; rfl
  · show PyData.depth (.list (xs.map D.d)) ≤ n + 1
    rw [PyData.depth]
    have : PyData.depthAll (xs.map D.d) ≤ n := by
      induction xs with
      | nil => simp [PyData.depthAll]
      | cons x xs ih => rw [List.map_cons, PyData.depthAll]; have := h.dep x; omega
    omega
  · show PyData.eqv (.list (xs.map D.d)) (.list (xs.map D.d)) = true
    rw [PyData.eqv]
    induction xs with
    | nil => simp [PyData.eqvAll]
    | cons x xs ih => rw [List.map_cons, PyData.eqvAll, Bool.and_eq_true, h.rf, ih]; simp
theorem DS.up {α : Type} {R : Rl α} {D : RD R} {n m : Nat} (h : DS D n) (l : n ≤ m) : DS D m := ⟨h.lay, fun x => Nat.le_trans (h.dep x) l, h.rf⟩
theorem DS.shaped {α : Type} {R : Rl α} {D : RD R} {n : Nat} (h : DS D n) (l : n ≤ 64) (x : α) : SeqAt.shaped (D.d x) = true := by
  unfold SeqAt.shaped; rw [h.lay, decide_eq_true (Nat.le_trans (h.dep x) l)]; rfl
/-! data equal to itself, where its texts may be laid -/
structure DL {α : Type} {R : Rl α} (D : RD R) (n : Nat) (p : α → Prop) : Prop where
  lay : ∀ x, p x → (D.d x).canLay0 = true
  dep : ∀ x, (D.d x).depth ≤ n
  rf : ∀ x, PyData.eqv (D.d x) (D.d x) = true
structure DLA {α : Type} {A : Ar α} (D : AD A) (n : Nat) (p : α → Prop) : Prop where
  lay : ∀ x, p x → PyData.canLayAll0 (D.d x) = true
  dep : ∀ x, PyData.depthAll (D.d x) ≤ n
  rf : ∀ x, PyData.eqvAll (D.d x) (D.d x) = true
section
variable {α β : Type} {R : Rl α} {R' : Rl β} {D : RD R} {D' : RD R'} {n m : Nat} {p : α → Prop} {q : β → Prop} {A : Ar β} {E : AD A}
theorem DS.dl (h : DS D n) : DL D n (fun _ => True) := ⟨fun x _ => h.lay x, h.dep, h.rf⟩
theorem DE.dl (h : DE D n) : DL D n (fun _ => True) := h.ds.dl
theorem dl_str : DL dStr 1 (fun s => PySem.PyData.strOk s = true) := ⟨fun x h => by show PyData.canLay0 (.str x) = true; rw [PyData.canLay0]; exact h, fun x => by simp [dStr, PyData.depth], fun x => by simp [dStr, PyData.eqv]⟩
theorem DL.up (h : DL D n p) (l : n ≤ m) : DL D m p := ⟨h.lay, fun x => Nat.le_trans (h.dep x) l, h.rf⟩
theorem DL.imp {p' : α → Prop} (h : DL D n p) (k : ∀ x, p' x → p x) : DL D n p' := ⟨fun x hx => h.lay x (k x hx), h.dep, h.rf⟩
theorem dl_lay (h : DL D n p) (xs : List α) (hx : ∀ x ∈ xs, p x) : PyData.canLayAll0 (xs.map D.d) = true := by
  induction xs with
  | nil => rfl
  | cons x xs ih => rw [List.map_cons, PyData.canLayAll0, h.lay x (hx x List.mem_cons_self), ih fun y hy => hx y (List.mem_cons_of_mem _ hy)]; rfl
theorem dl_dep (h : DL D n p) (xs : List α) : PyData.depthAll (xs.map D.d) ≤ n := by
  induction xs with
  | nil => simp [PyData.depthAll]
  | cons x xs ih => rw [List.map_cons, PyData.depthAll]; have := h.dep x; omega
theorem dl_rf (h : DL D n p) (xs : List α) : PyData.eqvAll (xs.map D.d) (xs.map D.d) = true := by
  induction xs with
  | nil => simp [PyData.eqvAll]
  | cons x xs ih => rw [List.map_cons, PyData.eqvAll, Bool.and_eq_true, h.rf, ih]; simp
theorem dl_tup (h : DL D n p) : DL (dTup D) (n + 1) (fun xs => ∀ x ∈ xs, p x) := ⟨fun xs hx => by
  show PyData.canLay0 (.tuple (xs.map D.d)) = true
  rw [PyData.canLay0]; exact dl_lay h xs hx, fun xs => by
  show PyData.depth (.tuple (xs.map D.d)) ≤ n + 1
  rw [PyData.depth]; have := dl_dep h xs; omega, fun xs => by
  show PyData.eqv (.tuple (xs.map D.d)) (.tuple (xs.map D.d)) = true
  rw [PyData.eqv]; exact dl_rf h xs⟩
theorem dl_lst (h : DL D n p) : DL (dLst D) (n + 1) (fun xs => ∀ x ∈ xs, p x) := ⟨fun xs hx => by
  show PyData.canLay0 (.list (xs.map D.d)) = true
  rw [PyData.canLay0]; exact dl_lay h xs hx, fun xs => by
  show PyData.depth (.list (xs.map D.d)) ≤ n + 1
  rw [PyData.depth]; have := dl_dep h xs; omega, fun xs => by
  show PyData.eqv (.list (xs.map D.d)) (.list (xs.map D.d)) = true
  rw [PyData.eqv]; exact dl_rf h xs⟩
theorem dl_opt (h : DL D n p) (h1 : 1 ≤ n) : DL (dOpt D) n (fun o => ∀ x, o = some x → p x) := ⟨fun o hx => by
  cases o with
  | none => rfl
  | some x => exact h.lay x (hx x rfl), fun o => by
  cases o with
  | none => show PyData.depth .none ≤ n; simp [PyData.depth]; try omega
  | some x => exact h.dep x, fun o => by
  cases o with
  | none => show PyData.eqv .none .none = true; simp [PyData.eqv]
  | some x => exact h.rf x⟩
theorem dl_sum (h : DL D n p) (h' : DL D' n q) : DL (dSum D D') n (Sum.elim p q) := ⟨fun x hx => match x, hx with
  | .inl a, hx => h.lay a hx
  | .inr a, hx => h'.lay a hx, fun x => match x with
  | .inl a => h.dep a
  | .inr a => h'.dep a, fun x => match x with
  | .inl a => h.rf a
  | .inr a => h'.rf a⟩
theorem dla_one (h : DL D n p) : DLA (daOne D) n p := ⟨fun x hx => by
  show PyData.canLayAll0 [D.d x] = true
  rw [PyData.canLayAll0, h.lay x hx]; rfl, fun x => by
  show PyData.depthAll [D.d x] ≤ n
  rw [PyData.depthAll, PyData.depthAll]; have := h.dep x; omega, fun x => by
  show PyData.eqvAll [D.d x] [D.d x] = true
  rw [PyData.eqvAll, Bool.and_eq_true, h.rf]; simp [PyData.eqvAll]⟩
theorem dla_c (h : DL D n p) (k : DLA E n q) : DLA (daC D E) n (fun x => p x.1 ∧ q x.2) := ⟨fun x hx => by
  show PyData.canLayAll0 (D.d x.1 :: E.d x.2) = true
  rw [PyData.canLayAll0, h.lay _ hx.1, k.lay _ hx.2]; rfl, fun x => by
  show PyData.depthAll (D.d x.1 :: E.d x.2) ≤ n
  rw [PyData.depthAll]; have := h.dep x.1; have := k.dep x.2; omega, fun x => by
  show PyData.eqvAll (D.d x.1 :: E.d x.2) (D.d x.1 :: E.d x.2) = true
  rw [PyData.eqvAll, Bool.and_eq_true, h.rf, k.rf]; simp⟩
theorem dl_th (k : DLA E n q) : DL (dTh E) (n + 1) q := ⟨fun x hx => by
  show PyData.canLay0 (.tuple (E.d x)) = true
  rw [PyData.canLay0, k.lay x hx], fun x => by
  show PyData.depth (.tuple (E.d x)) ≤ n + 1
  rw [PyData.depth]; have := k.dep x; omega, fun x => by
  show PyData.eqv (.tuple (E.d x)) (.tuple (E.d x)) = true
  rw [PyData.eqv, k.rf]⟩
theorem DL.shaped (h : DL D n p) (l : n ≤ 64) {x : α} (hx : p x) : SeqAt.shaped (D.d x) = true := by
  unfold SeqAt.shaped; rw [h.lay x hx, decide_eq_true (Nat.le_trans (h.dep x) l)]; rfl
theorem neL_refl (h : DL D n p) (l : n ≤ 64) {x : α} (hx : p x) : neD (D.d x) (D.d x) = some false := by
  unfold neD; rw [if_pos ⟨h.shaped l hx, h.shaped l hx⟩, h.rf x]; rfl
theorem eqL_refl (h : DL D n p) (l : n ≤ 64) {x : α} (hx : p x) : eqD (D.d x) (D.d x) = some true := by
  unfold eqD; rw [if_pos ⟨h.shaped l hx, h.shaped l hx⟩, h.rf x]
/-- data that differ -/
theorem neL_diff (h : DL D n p) (h' : DL D' n q) (l : n ≤ 64) {x : α} {y : β} (hx : p x) (hy : q y) (e : PyData.eqv (D.d x) (D'.d y) = false) : neD (D.d x) (D'.d y) = some true := by
  unfold neD; rw [if_pos ⟨h.shaped l hx, h'.shaped l hy⟩, e]; rfl
theorem eqL_diff (h : DL D n p) (h' : DL D' n q) (l : n ≤ 64) {x : α} {y : β} (hx : p x) (hy : q y) (e : PyData.eqv (D.d x) (D'.d y) = false) : eqD (D.d x) (D'.d y) = some false := by
  unfold eqD; rw [if_pos ⟨h.shaped l hx, h'.shaped l hy⟩, e]
end
abbrev dWord : RD (rTh (arOne rStr)) := dTh (daOne dStr)
theorem dl_word : DL dWord 2 (fun s => PySem.PyData.strOk s = true) := dl_th (dla_one dl_str)
section
variable {S Z α β ρ : Type} {s : S}
theorem tot_fdE0 {f : Z → α → S → Option (Fl (Z × S) ρ)} {z : Z} {Q : Fl (Z × S) ρ → Prop} : Tot (fdE f z []) s Q ↔ Q (.nx (z, s)) := by
  unfold Tot; exact ⟨fun ⟨w, e, q⟩ => by cases e; exact q, fun q => ⟨_, rfl, q⟩⟩
theorem tot_fdEc {f : Z → α → S → Option (Fl (Z × S) ρ)} {z : Z} {x : α} {xs : List α} {Q : Fl (Z × S) ρ → Prop} : Tot (fdE f z (x :: xs)) s Q ↔ Tot (f z x) s (fun r => match r with
    | .nx w => Tot (fdE f w.1 xs) w.2 Q
    | .rt b => Q (.rt b)) := by
  unfold Tot
  constructor
  · rintro ⟨w, e, q⟩
    replace e : (f z x s).bind _ = some w := e
    cases h : f z x s with
    | none => rw [h] at e; cases e
    | some r =>
      rw [h] at e
      cases r with
      | nx p => exact ⟨_, rfl, w, e, q⟩
      | rt b => cases e; exact ⟨_, rfl, q⟩
  · rintro ⟨r, h, q⟩
    cases r with
    | nx p => obtain ⟨w, e, q⟩ := q; exact ⟨w, by show (f z x s).bind _ = _; rw [h]; exact e, q⟩
    | rt b => exact ⟨.rt b, by show (f z x s).bind _ = _; rw [h]; rfl, q⟩
/-- the first one for which p holds is returned -/
theorem tot_first {p : α → Bool} {mk : α → ρ} {f : Unit → α → S → Option (Fl (Unit × S) ρ)} : ∀ {xs : List α} {Q : Fl (Unit × S) ρ → Prop}, (∀ x ∈ xs, Tot (f () x) s (fun r => r = if p x = true then .rt (mk x) else .nx ((), s))) →
    (match (xs.filter p).head? with
      | some x => Q (.rt (mk x))
      | none => Q (.nx ((), s))) → Tot (fdE f () xs) s Q
  | [], Q, _, q => tot_fdE0.mpr q
  | x :: xs, Q, h, q => by
    rw [tot_fdEc]
    refine (h x List.mem_cons_self).mono fun r e => ?_
    subst e
    cases hp : p x with
    | true =>
      rw [List.filter_cons, if_pos hp] at q
      exact q
    | false =>
      rw [List.filter_cons, if_neg (by simp [hp])] at q
      exact tot_first (fun y hy => h y (List.mem_cons_of_mem _ hy)) q
theorem dPut_len {κ : Type} [DecidableEq κ] (kvs : List (κ × β)) (x : κ) (y : β) : (dPut kvs x y).length ≤ kvs.length + 1 := by
  unfold dPut; split <;> simp
theorem dSet_ok {κ : Type} [DecidableEq κ] {kvs : List (κ × β)} {x : κ} {y : β} (h : kvs.length < 1000000) : dSet kvs x y = some (dPut kvs x y) := if_pos h
end
theorem tot_whlE {S Z ρ : Type} {s : S} {c : Z → M S Bool} {f : Z → S → Option (Fl (Z × S) ρ)} {n : Nat} {z : Z} {Q : Fl (Z × S) ρ → Prop} (h : Tot (c z) s (fun w => (w.1 = true → Tot (f z) w.2 (fun r => match r with
    | .nx q => Tot (whlE c f n q.1) q.2 Q
    | .rt b => Q (.rt b))) ∧ (w.1 = false → Q (.nx (z, w.2))))) : Tot (whlE c f (n + 1) z) s Q := by
  show Tot (bnd (c z) fun b => bif b then (fun s => (f z s).bind fun r => match r with
    | .nx q => whlE c f n q.1 q.2
    | .rt b => some (.rt b)) else fun s => some (.nx (z, s))) s Q
  rw [tot_bnd]
  refine h.mono fun w q => ?_
  obtain ⟨b, s1⟩ := w
  cases b with
  | false => exact ⟨_, rfl, q.2 rfl⟩
  | true =>
    obtain ⟨r, e, q⟩ := q.1 rfl
    cases r with
    | nx p => obtain ⟨w, e2, q⟩ := q; exact ⟨w, by show (f z s1).bind _ = _; rw [e]; exact e2, q⟩
    | rt b => exact ⟨.rt b, by show (f z s1).bind _ = _; rw [e]; rfl, q⟩
theorem tot_tryO {S Z : Type} {s : S} {cat : List Str} {mb : S → Option ((Z × S) ⊕ (Str × S))} {mh : S → Option (Z × S)} {Q : Z × S → Prop} : Tot (tryO cat mb mh) s Q ↔ Tot mb s (fun w => match w with
    | .inl p => Q p
    | .inr q => q.1 ∈ cat ∧ Tot mh q.2 Q) := by
  unfold Tot tryO
  constructor
  · rintro ⟨w, e, q⟩
    cases h : mb s with
    | none => rw [h] at e; cases e
    | some r =>
      rw [h] at e
      cases r with
      | inl p => cases e; exact ⟨_, rfl, q⟩
      | inr p =>
        by_cases c : p.1 ∈ cat
        · simp [c] at e; exact ⟨_, rfl, c, w, e, q⟩
        · simp [c] at e
  · rintro ⟨r, h, q⟩
    cases r with
    | inl p => exact ⟨p, by rw [h]; rfl, q⟩
    | inr p =>
      obtain ⟨c, w, e, q⟩ := q
      exact ⟨w, by rw [h]; simp [c, e], q⟩
theorem tot_tryR {S Z Ω ρ : Type} {s : S} {cat : List Str} {emb : ρ → Ω} {mb : S → Option ((Z × S) ⊕ (Str × S))} {mh : S → Option ρ} {f : Z → S → Option Ω} {Q : Ω → Prop} : Tot (tryR cat emb mb mh f) s Q ↔ Tot mb s (fun w => match w with
    | .inl p => Tot (f p.1) p.2 Q
    | .inr q => q.1 ∈ cat ∧ Tot mh q.2 (fun r => Q (emb r))) := by
  unfold Tot tryR
  constructor
  · rintro ⟨w, e, q⟩
    cases h : mb s with
    | none => rw [h] at e; cases e
    | some r =>
      rw [h] at e
      cases r with
      | inl p => exact ⟨_, rfl, w, e, q⟩
      | inr p =>
        by_cases c : p.1 ∈ cat
        · simp [c] at e
          obtain ⟨x, hx, rfl⟩ := e
          exact ⟨_, rfl, c, x, hx, q⟩
        · simp [c] at e
  · rintro ⟨r, h, q⟩
    cases r with
    | inl p => obtain ⟨w, e, q⟩ := q; exact ⟨w, by rw [h]; exact e, q⟩
    | inr p =>
      obtain ⟨c, w, e, q⟩ := q
      exact ⟨emb w, by rw [h]; simp [c, e], q⟩
end T

namespace Law
open PySem L2 T
abbrev Out := T.Out
abbrev Act := T.Act
abbrev Vessel := T.Vessel
abbrev Spout := T.Spout
abbrev Net := T.Net
abbrev State := T.State
def top (i : Nat) : Stmt := PySem.Challenge.pw_tipwell_k27_whole_best_watch.main.body.getD i (.Pass ⟨0, 0, 0, 0⟩)
structure Txt (K : PySem.W.Frag) (mg : Str → Option Value) : Prop where
  bool : mg "bool" = none
  divmod : mg "divmod" = none
  enumerate : mg "enumerate" = none
  int : mg "int" = none
  isinstance : mg "isinstance" = none
  len : mg "len" = none
  list : mg "list" = none
  max : mg "max" = none
  min : mg "min" = none
  range : mg "range" = none
  set : mg "set" = none
  sum : mg "sum" = none
  tuple : mg "tuple" = none
  x_NoVessel : XcT K mg "NoVessel"
section
variable {P : Program} {w : World} {K : PySem.W.Frag} {mg : Str → Option Value} {base : Heap} {C Cr : Addr}
/-! dry -/
abbrev s_dry : Stmt := top 10
abbrev N_dry : List Str := ["net", "vessel"]
theorem sc_dry : FnScope N_dry ["net"] (defScope s_dry) := ⟨rfl, rfl, rfl, by decide +kernel, rfl, by decide +kernel, by decide +kernel⟩
def m_dry (xnet : Net) : Option (List Int) := rn (bnd (bnd (bnd (bnd (ret xnet) fun a1 => ret a1.1) fun q10 => bnd (lft (chk q10)) fun q11 => mp (fun x3 => ret (0 : Int)) q11) fun a12 => lft (some a12)) fun x13 s => some (x13, ()))
abbrev sp_dry : Sp := spP (arOne rNet) (rTup rInt) (fun x => m_dry x)
theorem ok_dry {f : Addr} {fd : FuncData} (F : Fun K "dry" "dry" s_dry f fd) (T : Txt K mg) : FnOk P w K mg base CX0 1 f fd ["net"] sp_dry := by
  refine F.ok sc_dry (fun vs H Q E h => ?_) (fun cdv A outer s H vs Q E hr h => ?_)
  · obtain ⟨F, O, x, b, ⟨_, rfl, _⟩, _⟩ := h; rfl
  · obtain ⟨F, O, xnet, b, ⟨vnet, rfl, rnet⟩, W, hm, k⟩ := h
    replace rnet : rNet.r F vnet xnet := rnet
    replace hm : m_dry xnet = some b := hm
    refine ⟨_, (pss_cons (ps_ret (pe_callTy (kc_tuple (K := K)) (by rfl) T.tuple (by decide +kernel) (pa_cons (pe_lc (g := (gName 1)) (tt := tYes) (by rfl) sc_dry.nd (kpi_tup (K := K) (pe_ix (kix_tup (K := K)) (pv 0) pe_int (fun _ _ => rfl))) (blkOk_by (N := N_dry) (sc := defScope s_dry) (own := [("vessel", 1)]) (by decide +kernel)) (fun _ _ _ _ _ => (pg_name (i := 1) sc_dry.nd rfl (by first | exact Or.inl rfl | exact Or.inr rfl))) (fun _ _ _ _ _ => pts_nil) (fun _ _ _ _ _ => pe_int)) pa_nil))) pss_nil), ?_⟩
    refine ok_P W hm k ?_
    show B _ [some vnet, none] F emp _ _
    exact b_ret pr_emp (ev_cb vl_tupleL (ea_one (ev_frz (eo_lcA (ei_tup (ev_prj prj_0 (ev_var rnet rfl))) (fun v2 x3 F4 s5 r6 => cb_all go_name (fun w7 k8 => by subst k8; exact wipe_s _ _ (by decide) (wipe_w _ _)) (fun w7 k8 => by subst k8; exact ev_σ (σ' := [some vnet, some v2]) rfl ev_int))))))
/-! need_vessel -/
abbrev s_need_vessel : Stmt := top 12
abbrev N_need_vessel : List Str := ["net", "vessel"]
theorem sc_need_vessel : FnScope N_need_vessel ["net", "vessel"] (defScope s_need_vessel) := ⟨rfl, rfl, rfl, by decide +kernel, rfl, by decide +kernel, by decide +kernel⟩
def m_need_vessel (xnet : Net) (xvessel : Int) : Option (Unit ⊕ Str) := rn (bnd (bnd (bnd (ret xvessel) fun a1 => bnd (ret (0 : Int)) fun b2 => lft (some (decide (a1 < b2)))) fun b7 => bif b7 then ret true else (bnd (ret xvessel) fun a5 => bnd (bnd (bnd (ret xnet) fun a3 => ret a3.1) fun a4 => lft (some (a4.length : Int))) fun b6 => lft (some (decide (b6 ≤ a5))))) fun b8 => bif b8 then (fun s => some ((fun n s => (.inr n, ())) "NoVessel" s)) else (fun s => some (.inl (), ())))
abbrev sp_need_vessel (K : PySem.W.Frag) : Sp := spPX K (arC rNet (arOne rInt)) rNone (fun x => m_need_vessel x.1 x.2)
theorem ok_need_vessel {f : Addr} {fd : FuncData} (F : Fun K "need_vessel" "need_vessel" s_need_vessel f fd) (T : Txt K mg) : FnOk P w K mg base (L2.CX P w) 1 f fd ["net", "vessel"] (sp_need_vessel K) := by
  refine F.okX sc_need_vessel (fun vs H Q E h => ?_) (fun cdv A outer s H vs Q E hr h => ?_)
  · obtain ⟨F, O, x, b, ⟨_, _, rfl, _, ⟨_, rfl, _⟩⟩, _⟩ := h; rfl
  · obtain ⟨F, O, ⟨xnet, xvessel⟩, b, ⟨vnet, _, rfl, rnet, ⟨vvessel, rfl, rvessel⟩⟩, W, hm, k⟩ := h
    replace rnet : rNet.r F vnet xnet := rnet
    replace rvessel : rInt.r F vvessel xvessel := rvessel
    replace hm : m_need_vessel xnet xvessel = some b := hm
    refine ⟨_, (pss_cons (ps_if (PW.pt (pw_or (pt_cmpR op_lt (pv 1) pe_int (nomark _)) (pw_or1 (pt_cmpR op_ge (pv 1) (pe_callB (kc_len (K := K)) (by rfl) T.len (by decide +kernel) (pa_cons (pe_ix (kix_tup (K := K)) (pv 0) pe_int (fun _ _ => rfl)) pa_nil)) (nomark _))))) (pss_one (ps_raiseX (K := K) (by rfl) (takes_of rfl rfl rfl rfl) T.x_NoVessel (by rfl))) pss_nil) pss_nil), ?_⟩
    refine ok_PNX W hm k ?_
    show B _ [some vnet, some vvessel] F emp _ _
    exact b_ifRaise (fun _ _ => rz_en pr_emp) (et_or (et_test (ev_op vl_lt (ev_var rvessel rfl) ev_int)) (et_test (ev_op vl_ge (ev_var rvessel rfl) (ev_cb vl_lenT (ea_one (ev_prj prj_0 (ev_var rnet rfl))))))) (fun F9 s10 => b_endX pr_emp)
/-! first_state -/
abbrev s_first_state : Stmt := top 4
abbrev N_first_state : List Str := ["net", "vessels", "spouts", "none", "vessel", "spout"]
theorem sc_first_state : FnScope N_first_state ["net"] (defScope s_first_state) := ⟨rfl, rfl, rfl, by decide +kernel, rfl, by decide +kernel, by decide +kernel⟩
def m_first_state (xnet : Net) : Option State := rn (bnd (ret xnet) fun x2 => bnd (bnd (bnd (ret x2.1) fun q28 => bnd (lft (chk q28)) fun q29 => mp (fun x21 => ret (0 : Int)) q29) fun a30 => lft (some a30)) fun x32 => bnd (bnd (ret x32) fun a50 => bnd (bnd (ret x32) fun a48 => bnd (bnd (bnd (ret x2.2) fun q45 => bnd (lft (chk q45)) fun q46 => mp (fun x37 => bnd (ret x37) fun a43 => ret a43.2.2) q46) fun a47 => lft (some a47)) fun b49 => ret (a48, b49)) fun b51 => ret (a50, b51)) fun x52 s => some (x52, ()))
abbrev sp_first_state : Sp := spP (arOne rNet) rState (fun x => m_first_state x)
theorem ok_first_state {f : Addr} {fd : FuncData} (F : Fun K "first_state" "first_state" s_first_state f fd) (T : Txt K mg) : FnOk P w K mg base CX0 1 f fd ["net"] sp_first_state := by
  refine F.ok sc_first_state (fun vs H Q E h => ?_) (fun cdv A outer s H vs Q E hr h => ?_)
  · obtain ⟨F, O, x, b, ⟨_, rfl, _⟩, _⟩ := h; rfl
  · obtain ⟨F, O, xnet, b, ⟨vnet, rfl, rnet⟩, W, hm, k⟩ := h
    replace rnet : rNet.r F vnet xnet := rnet
    replace hm : m_first_state xnet = some b := hm
    refine ⟨_, (pss_cons (ps_asg (pv 0) (kpg_tup (K := K) (by rfl) (pgs_cons (pg_name (i := 1) sc_first_state.nd rfl (by first | exact Or.inl rfl | exact Or.inr rfl)) (pgs_cons (pg_name (i := 2) sc_first_state.nd rfl (by first | exact Or.inl rfl | exact Or.inr rfl)) pgs_nil)))) (pss_cons (ps_set (i := 3) sc_first_state.nd rfl (Or.inl rfl) (pe_callTy (kc_tuple (K := K)) (by rfl) T.tuple (by decide +kernel) (pa_cons (pe_lc (g := (gName 4)) (tt := tYes) (by rfl) sc_first_state.nd (kpi_tup (K := K) (pv 1)) (blkOk_by (N := N_first_state) (sc := defScope s_first_state) (own := [("vessel", 4)]) (by decide +kernel)) (fun _ _ _ _ _ => (pg_name (i := 4) sc_first_state.nd rfl (by first | exact Or.inl rfl | exact Or.inr rfl))) (fun _ _ _ _ _ => pts_nil) (fun _ _ _ _ _ => pe_int)) pa_nil))) (pss_cons (ps_ret (pe_tup (pa_cons (pv 3) (pa_cons (pv 3) (pa_cons (pe_callTy (kc_tuple (K := K)) (by rfl) T.tuple (by decide +kernel) (pa_cons (pe_lc (g := (gName 5)) (tt := tYes) (by rfl) sc_first_state.nd (kpi_tup (K := K) (pv 2)) (blkOk_by (N := N_first_state) (sc := defScope s_first_state) (own := [("spout", 5)]) (by decide +kernel)) (fun _ _ _ _ _ => (pg_name (i := 5) sc_first_state.nd rfl (by first | exact Or.inl rfl | exact Or.inr rfl))) (fun _ _ _ _ _ => pts_nil) (fun _ _ _ _ _ => (pe_ix (kix_tup (K := K)) (pv 5) pe_int (fun _ _ => rfl)))) pa_nil)) pa_nil))))) pss_nil))), ?_⟩
    refine ok_P W hm k ?_
    show B _ [some vnet, none, none, none, none, none] F emp _ _
    exact b_unp (ev_var rnet rfl) (fun _ _ _ _ r9 => go_t2 r9) fun v1 x2 F3 w6 s4 r5 ⟨v15, v16, r17, r18, e19⟩ => by subst e19; exact b_σ (σ' := [some vnet, some v15, some v16, none, none, none]) rfl (b_set (ev_cb vl_tupleL (ea_one (ev_frz (eo_lcA (ei_tup (ev_var r17 rfl)) (fun v20 x21 F22 s23 r24 => cb_all go_name (fun w25 k26 => by subst k26; exact wipe_s _ _ (by decide) (wipe_w _ _)) (fun w25 k26 => by subst k26; exact ev_σ (σ' := [some vnet, some v15, some v16, none, some v20, none]) rfl ev_int)))))) fun v31 x32 F33 s34 r35 => b_σ (σ' := [some vnet, some v15, some v16, some v31, none, none]) rfl (b_ret pr_emp (ev_tup (by decide) (ea_cons (ev_var r35 rfl) (ea_cons (ev_var r35 rfl) (ea_one (ev_cb vl_tupleL (ea_one (ev_frz (eo_lcA (ei_tup (ev_var ((rTup rSpout).mono s34 r18) rfl)) (fun v36 x37 F38 s39 r40 => cb_all go_name (fun w41 k42 => by subst k42; exact wipe_s _ _ (by decide) (wipe_w _ _)) (fun w41 k42 => by subst k42; exact ev_σ (σ' := [some vnet, some v15, some v16, some v31, none, some v36]) rfl (ev_prj (prj_s (prj_s prj_1)) (ev_var r40 rfl))))))))))))))
/-! filled -/
abbrev s_filled : Stmt := top 5
abbrev N_filled : List Str := ["net", "state", "poured", "vessels", "spouts", "held", "coming", "doors", "has", "came", "k", "spout"]
theorem sc_filled : FnScope N_filled ["net", "state", "poured"] (defScope s_filled) := ⟨rfl, rfl, rfl, by decide +kernel, rfl, by decide +kernel, by decide +kernel⟩
def m_filled (xnet : Net) (xstate : State) (xpoured : (List Int)) : Option ((List Int) × Int) := rn (bnd (ret xnet) fun x2 => bnd (ret xstate) fun x21 => bnd (bnd (bnd (bnd (ret x2.1) fun a41 => lft (some (a41.length : Int))) fun a42 => lft (rng 0 a42)) fun q61 => bnd (lft (chk q61)) fun q62 => mp (fun x44 => bnd (bnd (bnd (ret x21.1) fun a50 => bnd (ret x44) fun b51 => lft (atI a50 b51)) fun a54 => bnd (bnd (ret x21.2.1) fun a52 => bnd (ret x44) fun b53 => lft (atI a52 b53)) fun b55 => lft (some (a54 + b55))) fun a58 => bnd (bnd (ret xpoured) fun a56 => bnd (ret x44) fun b57 => lft (atI a56 b57)) fun b59 => lft (some (a58 + b59))) q62) (nw (bnd (bnd (ret xpoured) fun a66 => lft (some a66.sum)) fun x68 => bnd (bnd (ret x2.2) fun a72 => ret (enumL a72)) fun q140 => bnd (fd (fun z75 x76 => bnd (bnd (bnd (ret x21.2.2) fun a93 => bnd (ret x76.1) fun b94 => lft (atI a93 b94)) fun b95 => bif b95 then (bnd (bnd (ret x76.2) fun a96 => ret a96.1) fun a104 => bnd (gtL (fun s => s.2) fun d107 => atI d107 a104) fun b105 => bnd (bnd (ret x76.2) fun a97 => ret a97.2.1) fun c106 => bnd (upL (fun s => s.2) (fun s t => (s.1, t)) fun d107 => setI d107 a104 (b105 + c106)) fun _ => bnd (bnd (ret x76.2) fun a98 => ret a98.2.1) fun y99 => fun s => some ((z75 + y99), s)) else (fun s => some (z75, s))) fun z110 => fun s => some (z110, s)) x68 q140) fun z121 => fzL (fun s => s.2) (fun s => s.1) fun x131 => bnd (bnd (ret x131) fun a135 => bnd (ret z121) fun b136 => ret (a135, b136)) fun x137 s => some (x137, ()))))
abbrev sp_filled : Sp := spP (arC rNet (arC rState (arOne (rTup rInt)))) (rTh (arC (rLst rInt) (arOne rInt))) (fun x => m_filled x.1 x.2.1 x.2.2)
theorem ok_filled {f : Addr} {fd : FuncData} (F : Fun K "filled" "filled" s_filled f fd) (T : Txt K mg) : FnOk P w K mg base CX0 1 f fd ["net", "state", "poured"] sp_filled := by
  refine F.ok sc_filled (fun vs H Q E h => ?_) (fun cdv A outer s H vs Q E hr h => ?_)
  · obtain ⟨F, O, x, b, ⟨_, _, rfl, _, ⟨_, _, rfl, _, ⟨_, rfl, _⟩⟩⟩, _⟩ := h; rfl
  · obtain ⟨F, O, ⟨xnet, xstate, xpoured⟩, b, ⟨vnet, _, rfl, rnet, ⟨vstate, _, rfl, rstate, ⟨vpoured, rfl, rpoured⟩⟩⟩, W, hm, k⟩ := h
    replace rnet : rNet.r F vnet xnet := rnet
    replace rstate : rState.r F vstate xstate := rstate
    replace rpoured : (rTup rInt).r F vpoured xpoured := rpoured
    replace hm : m_filled xnet xstate xpoured = some b := hm
    refine ⟨_, (pss_cons (ps_asg (pv 0) (kpg_tup (K := K) (by rfl) (pgs_cons (pg_name (i := 3) sc_filled.nd rfl (by first | exact Or.inl rfl | exact Or.inr rfl)) (pgs_cons (pg_name (i := 4) sc_filled.nd rfl (by first | exact Or.inl rfl | exact Or.inr rfl)) pgs_nil)))) (pss_cons (ps_asg (pv 1) (kpg_tup (K := K) (by rfl) (pgs_cons (pg_name (i := 5) sc_filled.nd rfl (by first | exact Or.inl rfl | exact Or.inr rfl)) (pgs_cons (pg_name (i := 6) sc_filled.nd rfl (by first | exact Or.inl rfl | exact Or.inr rfl)) (pgs_cons (pg_name (i := 7) sc_filled.nd rfl (by first | exact Or.inl rfl | exact Or.inr rfl)) pgs_nil))))) (pss_cons (ps_setLc (i := 8) (g := (gName 10)) (tt := tYes) (by rfl) sc_filled.nd rfl rfl (sw_true rfl rfl rfl (by decide +kernel)) (pi_range1 (by rfl) T.range (pa_cons (pe_callB (kc_len (K := K)) (by rfl) T.len (by decide +kernel) (pa_cons (pv 3) pa_nil)) pa_nil)) (blkOk_by (N := N_filled) (sc := defScope s_filled) (own := [("k", 10)]) (by decide +kernel)) (fun _ _ _ _ _ => (pg_name (i := 10) sc_filled.nd rfl (by first | exact Or.inl rfl | exact Or.inr rfl))) (fun _ _ _ _ _ => pts_nil) (fun _ _ _ _ _ => (pe_op op_add (pe_op op_add (pe_ix (kix_tup (K := K)) (pv 5) (pv 10) (fun _ _ => rfl)) (pe_ix (kix_tup (K := K)) (pv 6) (pv 10) (fun _ _ => rfl))) (pe_ix (kix_tup (K := K)) (pv 2) (pv 10) (fun _ _ => rfl))))) (pss_cons (ps_set (i := 9) sc_filled.nd rfl (Or.inl rfl) (pe_callB (kc_sumT (K := K) (by rfl)) (by rfl) T.sum (by decide +kernel) (pa_cons (pv 2) pa_nil))) (pss_cons (ps_for PassesOwn.never (by rfl) (kpi_enumT (K := K) (by rfl) T.enumerate (pa_cons (pv 4) pa_nil)) (kpg_tup (K := K) (by rfl) (pgs_cons (pg_name (i := 10) sc_filled.nd rfl (by first | exact Or.inl rfl | exact Or.inr rfl)) (pgs_cons (pg_name (i := 11) sc_filled.nd rfl (by first | exact Or.inl rfl | exact Or.inr rfl)) pgs_nil))) (Evl.pss_cut (ps_if (pt_val (pe_ix (kix_tup (K := K)) (pv 7) (pv 10) (fun _ _ => rfl))) (pss_cons (ps_augS (pv 8) (pe_ix (kix_tup (K := K)) (pv 11) pe_int (fun _ _ => rfl)) (kpget_list (K := K)) (pe_ix (kix_tup (K := K)) (pv 11) pe_int (fun _ _ => rfl)) ip_add set_list) (pss_cons (ps_aug (i := 9) sc_filled.nd rfl (Or.inl rfl) (pe_ix (kix_tup (K := K)) (pv 11) pe_int (fun _ _ => rfl)) ip_add) pss_nil)) pss_nil) pss_nil)) (pss_cons (ps_ret (pe_tup (pa_cons (pv 8) (pa_cons (pv 9) pa_nil)))) pss_nil)))))), ?_⟩
    refine ok_P W hm k ?_
    show B _ [some vnet, some vstate, some vpoured, none, none, none, none, none, none, none, none, none] F emp _ _
    exact b_unp (ev_var rnet rfl) (fun _ _ _ _ r9 => go_t2 r9) fun v1 x2 F3 w6 s4 r5 ⟨v15, v16, r17, r18, e19⟩ => by subst e19; exact b_σ (σ' := [some vnet, some vstate, some vpoured, some v15, some v16, none, none, none, none, none, none, none]) rfl (b_unp (ev_var (rState.mono s4 rstate) rfl) (fun _ _ _ _ r28 => go_t3 r28) fun v20 x21 F22 w25 s23 r24 ⟨v34, v35, v36, r37, r38, r39, e40⟩ => by subst e40; exact b_σ (σ' := [some vnet, some vstate, some vpoured, some v15, some v16, some v34, some v35, some v36, none, none, none, none]) rfl (b_new (eo_lcA (ei_rng1 (ev_cb vl_lenT (ea_one (ev_var ((rTup rVessel).mono s23 r17) rfl)))) (fun v43 x44 F45 s46 r47 => cb_all go_name (fun w48 k49 => by subst k49; exact wipe_s _ _ (by decide) (wipe_w _ _)) (fun w48 k49 => by subst k49; exact ev_σ (σ' := [some vnet, some vstate, some vpoured, some v15, some v16, some v34, some v35, some v36, none, none, some v43, none]) rfl (ev_op vl_add (ev_op vl_add (ev_op vl_ixT (ev_var ((rTup rInt).mono s46 r37) rfl) (ev_var r47 rfl)) (ev_op vl_ixT (ev_var ((rTup rInt).mono s46 r38) rfl) (ev_var r47 rfl))) (ev_op vl_ixT (ev_var ((rTup rInt).mono ((s4.trans s23).trans s46) rpoured) rfl) (ev_var r47 rfl)))))) fun v63 F64 s65 => b_σ (σ' := [some vnet, some vstate, some vpoured, some v15, some v16, some v34, some v35, some v36, some v63, none, none, none]) rfl (b_set (ev_cb vl_sumT (ea_one (ev_var ((rTup rInt).mono ((s4.trans s23).trans s65) rpoured) rfl))) fun v67 x68 F69 s70 r71 => b_σ (σ' := [some vnet, some vstate, some vpoured, some v15, some v16, some v34, some v35, some v36, some v63, some v67, none, none]) rfl (b_for (z0 := x68) (Sl := (fun (z : Int) (F : Hp) (σ : L2.St) => ∃ (u1 : V) (u2 : Option V) (u3 : Option V), σ = [some vnet, some vstate, some vpoured, some v15, some v16, some v34, some v35, some v36, some v63, some u1, u2, u3] ∧ rInt.r F u1 z)) (ei_enumT (ev_var ((rTup rSpout).mono ((s23.trans s65).trans s70) r18) rfl)) (fun F138 s139 => ⟨v67, _, _, rfl, (rInt.mono s139 r71)⟩) (fun z75 x76 v77 F78 w79 s80 h81 r82 => by obtain ⟨v83, o84, o85, e86, r87⟩ := h81; subst e86; exact b_go (go_t2 r82) (fun _ ⟨v88, v89, r90, r91, e92⟩ => by subst e92; exact b_σ (σ' := [some vnet, some vstate, some vpoured, some v15, some v16, some v34, some v35, some v36, some v63, some v83, some v88, some v89]) rfl (b_ifJ (Sl := (fun (z : Int) (F : Hp) (σ : L2.St) => ∃ (u1 : V), σ = [some vnet, some vstate, some vpoured, some v15, some v16, some v34, some v35, some v36, some v63, some u1, some v88, some v89] ∧ rInt.r F u1 z)) (et_B (ev_op vl_ixT (ev_var ((rTup rBool).mono ((s65.trans s70).trans s80) r39) rfl) (ev_var r90 rfl))) (b_augL rfl (emb_r emb_id) (ev_prj prj_0 (ev_var r91 rfl)) (ev_prj (prj_s prj_0) (ev_var r91 rfl)) (b_augV r87 rfl (ev_prj (prj_s prj_0) (ev_var r91 rfl)) fun y99 F100 s101 => b_σ (σ' := [some vnet, some vstate, some vpoured, some v15, some v16, some v34, some v35, some v36, some v63, some (.int (z75 + y99)), some v88, some v89]) rfl (b_nx pr_id (fun F102 s103 => ⟨(.int (z75 + y99)), rfl, (rInt.mono s103 (ri (z75 + y99)))⟩)))) (b_nx pr_id (fun F108 s109 => ⟨v83, rfl, (rInt.mono s109 r87)⟩)) (fun z110 F111 w112 s113 h114 => by obtain ⟨v116, e117, r118⟩ := h114; subst e117; exact b_nx pr_id (fun F119 s120 => ⟨v116, _, _, rfl, (rInt.mono s120 r118)⟩))))) (fun z121 F122 w123 s124 h125 => by obtain ⟨v126, o127, o128, e129, r130⟩ := h125; subst e129; exact b_fzL rm_r fun x131 F132 s133 r134 => b_ret pr_emp (ev_tup (by decide) (ea_cons (ev_var r134 rfl) (ea_one (ev_var (rInt.mono s133 r130) rfl))))) (fun _ _ _ _ s ⟨a0, a1, a2, e, r0⟩ => ⟨a0, a1, a2, e, rInt.mono s r0⟩)))))
/-! tipped_out -/
abbrev s_tipped_out : Stmt := top 7
abbrev N_tipped_out : List Str := ["vessel", "amount", "pouring", "share", "left", "target", "parts"]
theorem sc_tipped_out : FnScope N_tipped_out ["vessel", "amount", "pouring"] (defScope s_tipped_out) := ⟨rfl, rfl, rfl, by decide +kernel, rfl, by decide +kernel, by decide +kernel⟩
def m_tipped_out (xvessel : Vessel) (xamount : Int) : M Pour Int := bnd (bnd (bnd (ret xamount) fun a18 => bnd (bnd (bnd (bnd (ret xvessel) fun a1 => ret a1.2.2.1) fun q15 => bnd (lft (chk q15)) fun q16 => mp (fun x3 => ret x3.2) q16) fun a17 => lft (some a17.sum)) fun b19 => ret (a18, b19)) fun a20 => lft (dvm a20)) fun x22 => bnd (bnd (ret xvessel) fun a40 => ret a40.2.2.1) fun q89 => bnd (fd (fun z43 x44 => bnd (bnd (bnd (ret x44.1) fun a61 => bnd (bnd (ret x22.1) fun a59 => bnd (ret x44.2) fun b60 => lft (mulI a59 b60)) fun b62 => ret (a61, b62)) fun a63 => zm (fun s => s) (fun s t => t) (mPourGive a63.1 a63.2)) fun x64 => fun s => some ((), s)) () q89) fun z69 => bnd (bnd (ret xvessel) fun a77 => ret a77.2.2.2.1) fun b78 => bif b78 then (bnd (ret x22.2) fun x79 s => some (x79, s)) else (bnd (bnd (bnd (ret (none : (Option Int))) fun a80 => bnd (ret x22.2) fun b81 => ret (a80, b81)) fun a82 => zm (fun s => s) (fun s t => t) (mPourGive a82.1 a82.2)) fun x83 => bnd (ret (0 : Int)) fun x86 s => some (x86, s))
abbrev sp_tipped_out (C : Addr) : Sp := spS (fun v => (arC rVessel (arC rInt (arOne (rV v))))) (fun v => oPour C v) rInt (fun x => m_tipped_out x.1 x.2.1)
theorem ok_tipped_out {f : Addr} {fd : FuncData} (F : Fun K "tipped_out" "tipped_out" s_tipped_out f fd) (T : Txt K mg) (TP : PourT K C) (c_Pouring_give : KnM P w K mg base CX0 1 "give" C ["self", "target", "amount"] (spPourGive C)) : FnOk P w K mg base CX0 2 f fd ["vessel", "amount", "pouring"] (sp_tipped_out C) := by
  refine F.ok sc_tipped_out (fun vs H Q E h => ?_) (fun cdv A outer s H vs Q E hr h => ?_)
  · obtain ⟨i, F, O, c, x, s, b, s1, ⟨_, _, rfl, _, ⟨_, _, rfl, _, ⟨_, rfl, _⟩⟩⟩, _⟩ := h; rfl
  · obtain ⟨i0, F, O, c, ⟨xvessel, xamount, _⟩, s, b, s1, ⟨vvessel, _, rfl, rvessel, ⟨vamount, _, rfl, ramount, ⟨vpouring, rfl, rfl⟩⟩⟩, ho, W, hm, k⟩ := h
    replace rvessel : rVessel.r F vvessel xvessel := rvessel
    replace ramount : rInt.r F vamount xamount := ramount
    replace hm : m_tipped_out xvessel xamount s = some (b, s1) := hm
    refine ⟨_, (pss_cons (ps_asg (pe_callB call_divmod (by rfl) T.divmod (by decide +kernel) (pa_cons (pv 1) (pa_cons (pe_callB (kc_sum (K := K) (by rfl)) (by rfl) T.sum (by decide +kernel) (pa_cons (pe_lc (g := (gTup K 2 (gCons (gName 5) (gCons (gName 6) gNil)))) (tt := tYes) (by rfl) sc_tipped_out.nd (kpi_tup (K := K) (pe_ix (kix_tup (K := K)) (pv 0) pe_int (fun _ _ => rfl))) (blkOk_by (N := N_tipped_out) (sc := defScope s_tipped_out) (own := [("target", 5), ("parts", 6)]) (by decide +kernel)) (fun _ _ _ _ _ => (kpg_tup (K := K) (by rfl) (pgs_cons (pg_name (i := 5) sc_tipped_out.nd rfl (by first | exact Or.inl rfl | exact Or.inr rfl)) (pgs_cons (pg_name (i := 6) sc_tipped_out.nd rfl (by first | exact Or.inl rfl | exact Or.inr rfl)) pgs_nil)))) (fun _ _ _ _ _ => pts_nil) (fun _ _ _ _ _ => (pv 6))) pa_nil)) pa_nil))) (kpg_tup (K := K) (by rfl) (pgs_cons (pg_name (i := 3) sc_tipped_out.nd rfl (by first | exact Or.inl rfl | exact Or.inr rfl)) (pgs_cons (pg_name (i := 4) sc_tipped_out.nd rfl (by first | exact Or.inl rfl | exact Or.inr rfl)) pgs_nil)))) (pss_cons (ps_for PassesOwn.never (by rfl) (kpi_tup (K := K) (pe_ix (kix_tup (K := K)) (pv 0) pe_int (fun _ _ => rfl))) (kpg_tup (K := K) (by rfl) (pgs_cons (pg_name (i := 5) sc_tipped_out.nd rfl (by first | exact Or.inl rfl | exact Or.inr rfl)) (pgs_cons (pg_name (i := 6) sc_tipped_out.nd rfl (by first | exact Or.inl rfl | exact Or.inr rfl)) pgs_nil))) (pss_cons (ps_expr (pe_knM (pv 2) c_Pouring_give hr (by decide) (pa_cons (pv 5) (pa_cons (pe_op op_mul (pv 3) (pv 6)) pa_nil)))) pss_nil)) (pss_cons (ps_if (pt_val (pe_ix (kix_tup (K := K)) (pv 0) pe_int (fun _ _ => rfl))) (pss_cons (ps_ret (pv 4)) pss_nil) pss_nil) (pss_cons (ps_expr (pe_knM (pv 2) c_Pouring_give hr (by decide) (pa_cons pe_non (pa_cons (pv 4) pa_nil)))) (pss_cons (ps_ret pe_int) pss_nil))))), ?_⟩
    refine ok_S W ho hm k ?_
    show B _ [some vvessel, some vamount, some vpouring, none, none, none, none] F (oPour C vpouring) _ _
    exact b_unp (ev_cb vl_divmod (ea_cons (ev_var ramount rfl) (ea_one (ev_cb vl_sumL (ea_one (ev_frz (eo_lcA (ei_tup (ev_prj (prj_s (prj_s prj_0)) (ev_var rvessel rfl))) (fun v2 x3 F4 s5 r6 => cb_all (go_t2 r6) (fun w7 ⟨v9, v10, r11, r12, e13⟩ => by subst e13; exact wipe_s _ _ (by decide) (wipe_s _ _ (by decide) (wipe_w _ _))) (fun w7 ⟨v9, v10, r11, r12, e13⟩ => by subst e13; exact ev_σ (σ' := [some vvessel, some vamount, some vpouring, none, none, some v9, some v10]) rfl (ev_var r12 rfl)))))))))) (fun _ _ _ _ r29 => go_t2 r29) fun v21 x22 F23 w26 s24 r25 ⟨v35, v36, r37, r38, e39⟩ => by subst e39; exact b_σ (σ' := [some vvessel, some vamount, some vpouring, some v35, some v36, none, none]) rfl (b_for (z0 := ()) (Sl := (fun (z : Unit) (F : Hp) (σ : L2.St) => ∃ (u1 : Option V) (u2 : Option V), σ = [some vvessel, some vamount, some vpouring, some v35, some v36, u1, u2])) (ei_tup (ev_prj (prj_s (prj_s prj_0)) (ev_var (rVessel.mono s24 rvessel) rfl))) (fun F87 s88 => ⟨_, _, rfl⟩) (fun z43 x44 v45 F46 w47 s48 h49 r50 => by obtain ⟨o51, o52, e53⟩ := h49; subst e53; exact b_go (go_t2 r50) (fun _ ⟨v54, v55, r56, r57, e58⟩ => by subst e58; exact b_σ (σ' := [some vvessel, some vamount, some vpouring, some v35, some v36, some v54, some v55]) rfl (b_expr (ev_methS (f := fun x => mPourGive x.1 x.2) (hd_pour _) rfl emb_id (ea_cons (ev_var r56 rfl) (ea_one (ev_op vl_mul (ev_var (rInt.mono s48 r37) rfl) (ev_var r57 rfl))))) fun x64 F65 s66 => b_nx pr_id (fun F67 s68 => ⟨_, _, rfl⟩)))) (fun z69 F70 w71 s72 h73 => by obtain ⟨o74, o75, e76⟩ := h73; subst e76; exact b_ifR (et_B (ev_prj (prj_s (prj_s (prj_s prj_0))) (ev_var (rVessel.mono (s24.trans s72) rvessel) rfl))) (b_ret pr_id (ev_var (rInt.mono s72 r38) rfl)) (b_expr (ev_methS (f := fun x => mPourGive x.1 x.2) (hd_pour _) rfl emb_id (ea_cons (ev_nonO (R := rInt)) (ea_one (ev_var (rInt.mono s72 r38) rfl)))) fun x83 F84 s85 => b_ret pr_id ev_int)) (fun _ _ _ _ s ⟨a0, a1, e⟩ => ⟨a0, a1, e⟩))
/-! doors_behind -/
abbrev s_doors_behind : Stmt := top 8
abbrev N_doors_behind : List Str := ["net", "doors", "tipped", "found", "number", "word", "spout"]
theorem sc_doors_behind : FnScope N_doors_behind ["net", "doors", "tipped"] (defScope s_doors_behind) := ⟨rfl, rfl, rfl, by decide +kernel, rfl, by decide +kernel, by decide +kernel⟩
def m_doors_behind (xnet : Net) (xdoors : (List Bool)) (xtipped : (List Int)) : Option (List Bool) := rn (bnd (bnd (ret xdoors) fun a1 => lft (some a1)) (nw (bnd (ret xtipped) fun q94 => bnd (fd (fun z7 x8 => bnd (bnd (bnd (bnd (ret xnet) fun a19 => ret a19.1) fun a20 => bnd (ret x8) fun b21 => lft (atI a20 b21)) fun a22 => ret a22.2.2.2.2.2) fun q80 => bnd (fd (fun z25 x26 => bnd (bnd (bnd (ret x26.1) fun a41 => bnd (ret ("turn" : Str)) fun b42 => lft (some (decide (a41 = b42)))) fun b43 => bif b43 then (bnd (bnd (bnd (ret x26.2) fun a44 => gtL (fun s => s.2) fun b45 => atI b45 a44) fun b46 => ret (!b46)) fun a49 => bnd (ret x26.2) fun b50 => bnd (upL (fun s => s.2) (fun s t => (s.1, t)) fun c51 => setI c51 b50 a49) fun _ => fun s => some ((), s)) else (bnd (bnd (ret x26.1) fun a52 => bnd (ret ("open" : Str)) fun b53 => lft (some (decide (a52 = b53)))) fun a56 => bnd (ret x26.2) fun b57 => bnd (upL (fun s => s.2) (fun s t => (s.1, t)) fun c58 => setI c58 b57 a56) fun _ => fun s => some ((), s))) fun z59 => fun s => some ((), s)) () q80) fun z68 => fun s => some ((), s)) () q94) fun z81 => bnd (gtL (fun s => s.2) fun a90 => some a90) fun x91 s => some (x91, ()))))
abbrev sp_doors_behind : Sp := spP (arC rNet (arC (rTup rBool) (arOne (rLst rInt)))) (rTup rBool) (fun x => m_doors_behind x.1 x.2.1 x.2.2)
theorem ok_doors_behind {f : Addr} {fd : FuncData} (F : Fun K "doors_behind" "doors_behind" s_doors_behind f fd) (T : Txt K mg) : FnOk P w K mg base CX0 1 f fd ["net", "doors", "tipped"] sp_doors_behind := by
  refine F.ok sc_doors_behind (fun vs H Q E h => ?_) (fun cdv A outer s H vs Q E hr h => ?_)
  · obtain ⟨F, O, x, b, ⟨_, _, rfl, _, ⟨_, _, rfl, _, ⟨_, rfl, _⟩⟩⟩, _⟩ := h; rfl
  · obtain ⟨F, O, ⟨xnet, xdoors, xtipped⟩, b, ⟨vnet, _, rfl, rnet, ⟨vdoors, _, rfl, rdoors, ⟨vtipped, rfl, rtipped⟩⟩⟩, W, hm, k⟩ := h
    replace rnet : rNet.r F vnet xnet := rnet
    replace rdoors : (rTup rBool).r F vdoors xdoors := rdoors
    replace rtipped : (rLst rInt).r F vtipped xtipped := rtipped
    replace hm : m_doors_behind xnet xdoors xtipped = some b := hm
    refine ⟨_, (pss_cons (ps_set (i := 3) sc_doors_behind.nd rfl (Or.inl rfl) (pe_callTy (kc_list (K := K)) (by rfl) T.list (by decide +kernel) (pa_cons (pv 1) pa_nil))) (pss_cons (ps_for PassesOwn.never (by rfl) (kpi_list (K := K) (pv 2)) (pg_name (i := 4) sc_doors_behind.nd rfl (by first | exact Or.inl rfl | exact Or.inr rfl)) (pss_cons (ps_for PassesOwn.never (by rfl) (kpi_tup (K := K) (pe_ix (kix_tup (K := K)) (pe_ix (kix_tup (K := K)) (pe_ix (kix_tup (K := K)) (pv 0) pe_int (fun _ _ => rfl)) (pv 4) (fun _ _ => rfl)) pe_int (fun _ _ => rfl))) (kpg_tup (K := K) (by rfl) (pgs_cons (pg_name (i := 5) sc_doors_behind.nd rfl (by first | exact Or.inl rfl | exact Or.inr rfl)) (pgs_cons (pg_name (i := 6) sc_doors_behind.nd rfl (by first | exact Or.inl rfl | exact Or.inr rfl)) pgs_nil))) (Evl.pss_cut (ps_if (pt_cmpR op_eq (pv 5) pe_str (nomark _)) (pss_cons (ps_asg (pe_not (pe_ix (kix_list (K := K)) (pv 3) (pv 6) (fun _ _ => rfl))) (pg_sub (pv 3) (pv 6) set_list)) pss_nil) (pss_cons (ps_asg (pe_cmpR op_eq (pv 5) pe_str (nomark _)) (pg_sub (pv 3) (pv 6) set_list)) pss_nil)) pss_nil)) pss_nil)) (pss_cons (ps_ret (pe_callTy (kc_tuple (K := K)) (by rfl) T.tuple (by decide +kernel) (pa_cons (pv 3) pa_nil))) pss_nil))), ?_⟩
    refine ok_P W hm k ?_
    show B _ [some vnet, some vdoors, some vtipped, none, none, none, none] F emp _ _
    exact b_new (eo_cb vo_listT (ea_one (ev_var rdoors rfl))) fun v2 F3 s4 => b_σ (σ' := [some vnet, some vdoors, some vtipped, some v2, none, none, none]) rfl (b_for (z0 := ()) (Sl := (fun (z : Unit) (F : Hp) (σ : L2.St) => ∃ (u1 : Option V) (u2 : Option V) (u3 : Option V), σ = [some vnet, some vdoors, some vtipped, some v2, u1, u2, u3])) (ei_lst (ev_var ((rLst rInt).mono s4 rtipped) rfl)) (fun F92 s93 => ⟨_, _, _, rfl⟩) (fun z7 x8 v9 F10 w11 s12 h13 r14 => by obtain ⟨o15, o16, o17, e18⟩ := h13; subst e18; exact b_go go_name (fun _ k => by subst k; exact b_σ (σ' := [some vnet, some vdoors, some vtipped, some v2, some v9, o16, o17]) rfl (b_for (z0 := ()) (Sl := (fun (z : Unit) (F : Hp) (σ : L2.St) => ∃ (u1 : Option V) (u2 : Option V), σ = [some vnet, some vdoors, some vtipped, some v2, some v9, u1, u2])) (ei_tup (ev_prj (prj_s (prj_s (prj_s (prj_s (prj_s prj_1))))) (ev_op vl_ixT (ev_prj prj_0 (ev_var (rNet.mono (s4.trans s12) rnet) rfl)) (ev_var r14 rfl)))) (fun F78 s79 => ⟨_, _, rfl⟩) (fun z25 x26 v27 F28 w29 s30 h31 r32 => by obtain ⟨o33, o34, e35⟩ := h31; subst e35; exact b_go (go_t2 r32) (fun _ ⟨v36, v37, r38, r39, e40⟩ => by subst e40; exact b_σ (σ' := [some vnet, some vdoors, some vtipped, some v2, some v9, some v36, some v37]) rfl (b_ifJ (Sl := (fun (z : Unit) (F : Hp) (σ : L2.St) => σ = [some vnet, some vdoors, some vtipped, some v2, some v9, some v36, some v37])) (et_test (ev_op vl_eqS (ev_var r38 rfl) ev_str)) (b_setL rfl (emb_r emb_id) (ev_not (ev_ixO rfl (emb_r emb_id) (ev_var r39 rfl))) (ev_var r39 rfl) (b_nx pr_id (fun F47 s48 => rfl))) (b_setL rfl (emb_r emb_id) (ev_op vl_eqS (ev_var r38 rfl) ev_str) (ev_var r39 rfl) (b_nx pr_id (fun F54 s55 => rfl))) (fun z59 F60 w61 s62 h63 => by subst h63; exact b_nx pr_id (fun F66 s67 => ⟨_, _, rfl⟩))))) (fun z68 F69 w70 s71 h72 => by obtain ⟨o73, o74, e75⟩ := h72; subst e75; exact b_nx pr_id (fun F76 s77 => ⟨_, _, _, rfl⟩)) (fun _ _ _ _ s ⟨a0, a1, e⟩ => ⟨a0, a1, e⟩)))) (fun z81 F82 w83 s84 h85 => by obtain ⟨o86, o87, o88, e89⟩ := h85; subst e89; exact b_ret pr_emp (ev_cbO vh_tuple rfl (emb_r emb_id))) (fun _ _ _ _ s ⟨a0, a1, a2, e⟩ => ⟨a0, a1, a2, e⟩))
/-! tick_with -/
abbrev s_tick_with : Stmt := top 9
abbrev N_tick_with : List Str := ["net", "state", "poured", "stuck", "vessels", "has", "came", "pouring", "stays", "tipped", "number", "vessel", "amount", "behind"]
theorem sc_tick_with : FnScope N_tick_with ["net", "state", "poured", "stuck"] (defScope s_tick_with) := ⟨rfl, rfl, rfl, by decide +kernel, rfl, by decide +kernel, by decide +kernel⟩
def m_tick_with (xnet : Net) (xstate : State) (xpoured : (List Int)) (xstuck : (Option Int)) : Option (State × (List Int) × Int × Int) := rn (bnd (bnd (ret xnet) fun a1 => ret a1.1) fun x3 => bnd (bnd (bnd (ret xnet) fun a9 => bnd (bnd (ret xstate) fun a7 => bnd (ret xpoured) fun b8 => ret (a7, b8)) fun b10 => ret (a9, b10)) fun a11 => lft (m_filled a11.1 a11.2.1 a11.2.2)) fun x13 => bnd (bnd (bnd (ret x3) fun a31 => lft (some (a31.length : Int))) fun a32 => lft (pourNew a32)) (nw (bnd (bnd (ret ([] : List Int)) fun a36 => lft (few a36)) (nw (bnd (bnd (ret ([] : List Int)) fun a40 => lft (few a40)) (nw (bnd (bnd (ret x3) fun a44 => ret (enumL a44)) fun q181 => bnd (fd (fun z47 x48 => bnd (bnd (ret x13.1) fun a64 => bnd (ret x48.1) fun b65 => lft (atI a64 b65)) fun x67 => bnd (bnd (bnd (ret x67) fun a72 => bnd (bnd (ret x48.2) fun a71 => ret a71.2.1) fun b73 => lft (some (decide (b73 < a72)))) fun b74 => bif b74 then (bnd (bnd (bnd (bnd (ret x48.2) fun a75 => ret a75.2.2.2.2.1) fun a79 => bnd (bnd (ret x67) fun a77 => bnd (bnd (ret x48.2) fun a76 => ret a76.2.1) fun b78 => lft (some (a77 - b78))) fun b80 => ret (a79, b80)) fun a81 => zm (fun s => s.1.1.2) (fun s t => (((s.1.1.1, t), s.1.2), s.2)) (mPourGive a81.1 a81.2)) fun x82 => bnd (bnd (ret x48.2) fun a85 => ret a85.2.1) fun x87 => fun s => some (x87, s)) else (fun s => some (x67, s))) fun z95 => bnd (bnd (bnd (bnd (ret z95) fun a105 => bnd (bnd (ret x48.2) fun a104 => ret a104.1) fun b106 => lft (some (decide (b106 ≤ a105)))) fun b109 => bif b109 then (bnd (ret x48.1) fun a107 => bnd (ret xstuck) fun b108 => lft (some (!decide (some a107 = b108)))) else ret false) fun b110 => bif b110 then (bnd (bnd (bnd (ret x48.2) fun a113 => bnd (bnd (ret z95) fun a111 => bnd (ret ()) fun b112 => ret (a111, b112)) fun b114 => ret (a113, b114)) fun a115 => zm (fun s => s.1.1.2) (fun s t => (((s.1.1.1, t), s.1.2), s.2)) (m_tipped_out a115.1 a115.2.1)) fun x117 => bnd (ret x48.1) fun a123 => bnd (upL (fun s => s.2) (fun s t => (s.1, t)) fun b124 => app b124 a123) fun _ => fun s => some (x117, s)) else (fun s => some (z95, s))) fun z127 => bnd (ret z127) fun a138 => bnd (upL (fun s => s.1.2) (fun s t => ((s.1.1, t), s.2)) fun b139 => app b139 a138) fun _ => fun s => some ((), s)) () q181) fun z140 => fzL (fun s => s.2) (fun s => s.1) fun x149 => bnd (bnd (gtL (fun s => s.2) fun a153 => some a153) fun a163 => bnd (bnd (gtL (fun s => s.1.2) fun a154 => some a154.1) fun a161 => bnd (bnd (bnd (ret xnet) fun a158 => bnd (bnd (bnd (ret xstate) fun a155 => ret a155.2.2) fun a156 => bnd (ret x149) fun b157 => ret (a156, b157)) fun b159 => ret (a158, b159)) fun a160 => lft (m_doors_behind a160.1 a160.2.1 a160.2.2)) fun b162 => ret (a161, b162)) fun b164 => ret (a163, b164)) fun x166 => bnd (bnd (ret x166) fun a176 => bnd (bnd (bnd (ret x149) fun a170 => lft (some a170)) fun a174 => bnd (bnd (gtL (fun s => s.1.2) fun a171 => some a171.2) fun a172 => bnd (ret x13.2) fun b173 => ret (a172, b173)) fun b175 => ret (a174, b175)) fun b177 => ret (a176, b177)) fun x178 s => some (x178, ()))))))))
abbrev sp_tick_with : Sp := spP (arC rNet (arC rState (arC (rTup rInt) (arOne (rOpt rInt))))) (rTh (arC rState (arC (rTup rInt) (arC rInt (arOne rInt))))) (fun x => m_tick_with x.1 x.2.1 x.2.2.1 x.2.2.2)
theorem ok_tick_with {f : Addr} {fd : FuncData} (F : Fun K "tick_with" "tick_with" s_tick_with f fd) (T : Txt K mg) (TP : PourT K C) (c_filled : Kn P w K mg base CX0 1 "filled" ["net", "state", "poured"] sp_filled) (c_Pouring_init : KnC P w K mg base CX0 1 "Pouring" C ["self", "many"] (spPourInit C)) (c_Pouring_give : KnM P w K mg base CX0 1 "give" C ["self", "target", "amount"] (spPourGive C)) (c_tipped_out : Kn P w K mg base CX0 2 "tipped_out" ["vessel", "amount", "pouring"] (sp_tipped_out C)) (c_doors_behind : Kn P w K mg base CX0 1 "doors_behind" ["net", "doors", "tipped"] sp_doors_behind) : FnOk P w K mg base CX0 3 f fd ["net", "state", "poured", "stuck"] sp_tick_with := by
  refine F.ok sc_tick_with (fun vs H Q E h => ?_) (fun cdv A outer s H vs Q E hr h => ?_)
  · obtain ⟨F, O, x, b, ⟨_, _, rfl, _, ⟨_, _, rfl, _, ⟨_, _, rfl, _, ⟨_, rfl, _⟩⟩⟩⟩, _⟩ := h; rfl
  · obtain ⟨F, O, ⟨xnet, xstate, xpoured, xstuck⟩, b, ⟨vnet, _, rfl, rnet, ⟨vstate, _, rfl, rstate, ⟨vpoured, _, rfl, rpoured, ⟨vstuck, rfl, rstuck⟩⟩⟩⟩, W, hm, k⟩ := h
    replace rnet : rNet.r F vnet xnet := rnet
    replace rstate : rState.r F vstate xstate := rstate
    replace rpoured : (rTup rInt).r F vpoured xpoured := rpoured
    replace rstuck : (rOpt rInt).r F vstuck xstuck := rstuck
    replace hm : m_tick_with xnet xstate xpoured xstuck = some b := hm
    refine ⟨_, (pss_cons (ps_set (i := 4) sc_tick_with.nd rfl (Or.inl rfl) (pe_ix (kix_tup (K := K)) (pv 0) pe_int (fun _ _ => rfl))) (pss_cons (ps_asg (pe_kn c_filled hr (by decide) (by rfl) (pa_cons (pv 0) (pa_cons (pv 1) (pa_cons (pv 2) pa_nil)))) (kpg_tup (K := K) (by rfl) (pgs_cons (pg_name (i := 5) sc_tick_with.nd rfl (by first | exact Or.inl rfl | exact Or.inr rfl)) (pgs_cons (pg_name (i := 6) sc_tick_with.nd rfl (by first | exact Or.inl rfl | exact Or.inr rfl)) pgs_nil)))) (pss_cons (ps_set (i := 7) sc_tick_with.nd rfl (Or.inl rfl) (pe_knC c_Pouring_init hr (by decide) (by rfl) (pa_cons (pe_callB (kc_len (K := K)) (by rfl) T.len (by decide +kernel) (pa_cons (pv 4) pa_nil)) pa_nil))) (pss_cons (ps_set (i := 8) sc_tick_with.nd rfl (Or.inl rfl) (pe_lst pa_nil)) (pss_cons (ps_set (i := 9) sc_tick_with.nd rfl (Or.inl rfl) (pe_lst pa_nil)) (pss_cons (ps_for PassesOwn.never (by rfl) (kpi_enumT (K := K) (by rfl) T.enumerate (pa_cons (pv 4) pa_nil)) (kpg_tup (K := K) (by rfl) (pgs_cons (pg_name (i := 10) sc_tick_with.nd rfl (by first | exact Or.inl rfl | exact Or.inr rfl)) (pgs_cons (pg_name (i := 11) sc_tick_with.nd rfl (by first | exact Or.inl rfl | exact Or.inr rfl)) pgs_nil))) (pss_cons (ps_set (i := 12) sc_tick_with.nd rfl (Or.inl rfl) (pe_ix (kix_list (K := K)) (pv 5) (pv 10) (fun _ _ => rfl))) (Evl.pss_cut (ps_if (pt_cmpR op_gt (pv 12) (pe_ix (kix_tup (K := K)) (pv 11) pe_int (fun _ _ => rfl)) (nomark _)) (pss_cons (ps_expr (pe_knM (pv 7) c_Pouring_give hr (by decide) (pa_cons (pe_ix (kix_tup (K := K)) (pv 11) pe_int (fun _ _ => rfl)) (pa_cons (pe_op op_sub (pv 12) (pe_ix (kix_tup (K := K)) (pv 11) pe_int (fun _ _ => rfl))) pa_nil)))) (pss_cons (ps_set (i := 12) sc_tick_with.nd rfl (Or.inl rfl) (pe_ix (kix_tup (K := K)) (pv 11) pe_int (fun _ _ => rfl))) pss_nil)) pss_nil) (Evl.pss_cut (ps_if (PW.pt (pw_and (pt_cmpR op_ge (pv 12) (pe_ix (kix_tup (K := K)) (pv 11) pe_int (fun _ _ => rfl)) (nomark _)) (pw_and1 (pt_cmpR op_ne (pv 10) (pv 3) (nomark _))))) (pss_cons (ps_set (i := 12) sc_tick_with.nd rfl (Or.inl rfl) (pe_kn c_tipped_out hr (by decide) (by rfl) (pa_cons (pv 11) (pa_cons (pv 12) (pa_cons (pv 7) pa_nil))))) (pss_cons (ps_expr (kpe_bm (K := K) PySem.F.plainAttrs_list PySem.F.slot_list_append PySem.F.type_list_append mt_append (pv 9) (pa_cons (pv 10) pa_nil))) pss_nil)) pss_nil) (pss_cons (ps_expr (kpe_bm (K := K) PySem.F.plainAttrs_list PySem.F.slot_list_append PySem.F.type_list_append mt_append (pv 8) (pa_cons (pv 12) pa_nil))) pss_nil))))) (pss_cons (ps_set (i := 13) sc_tick_with.nd rfl (Or.inl rfl) (pe_tup (pa_cons (pe_callTy (kc_tuple (K := K)) (by rfl) T.tuple (by decide +kernel) (pa_cons (pv 8) pa_nil)) (pa_cons (pe_callTy (kc_tuple (K := K)) (by rfl) T.tuple (by decide +kernel) (pa_cons (kpe_fld (K := K) (pv 7)) pa_nil)) (pa_cons (pe_kn c_doors_behind hr (by decide) (by rfl) (pa_cons (pv 0) (pa_cons (pe_ix (kix_tup (K := K)) (pv 1) pe_int (fun _ _ => rfl)) (pa_cons (pv 9) pa_nil)))) pa_nil))))) (pss_cons (ps_ret (pe_tup (pa_cons (pv 13) (pa_cons (pe_callTy (kc_tuple (K := K)) (by rfl) T.tuple (by decide +kernel) (pa_cons (pv 9) pa_nil)) (pa_cons (kpe_fld (K := K) (pv 7)) (pa_cons (pv 6) pa_nil)))))) pss_nil)))))))), ?_⟩
    refine ok_P W hm k ?_
    show B _ [some vnet, some vstate, some vpoured, some vstuck, none, none, none, none, none, none, none, none, none, none] F emp _ _
    exact b_set (ev_prj prj_0 (ev_var rnet rfl)) fun v2 x3 F4 s5 r6 => b_σ (σ' := [some vnet, some vstate, some vpoured, some vstuck, some v2, none, none, none, none, none, none, none, none, none]) rfl (b_unp (ev_callP (ea_cons (ev_var (rNet.mono s5 rnet) rfl) (ea_cons (ev_var (rState.mono s5 rstate) rfl) (ea_one (ev_var ((rTup rInt).mono s5 rpoured) rfl))))) (fun _ _ _ _ r20 => go_t2 r20) fun v12 x13 F14 w17 s15 r16 ⟨v26, v27, r28, r29, e30⟩ => by subst e30; exact b_σ (σ' := [some vnet, some vstate, some vpoured, some vstuck, some v2, some v26, some v27, none, none, none, none, none, none, none]) rfl (b_new (eo_pour (ev_cb vl_lenT (ea_one (ev_var ((rTup rVessel).mono s15 r6) rfl)))) fun v33 F34 s35 => b_σ (σ' := [some vnet, some vstate, some vpoured, some vstuck, some v2, some v26, some v27, some v33, none, none, none, none, none, none]) rfl (b_new (eo_lst (eal_nil (R := rInt))) fun v37 F38 s39 => b_σ (σ' := [some vnet, some vstate, some vpoured, some vstuck, some v2, some v26, some v27, some v33, some v37, none, none, none, none, none]) rfl (b_new (eo_lst (eal_nil (R := rInt))) fun v41 F42 s43 => b_σ (σ' := [some vnet, some vstate, some vpoured, some vstuck, some v2, some v26, some v27, some v33, some v37, some v41, none, none, none, none]) rfl (b_for (z0 := ()) (Sl := (fun (z : Unit) (F : Hp) (σ : L2.St) => ∃ (u1 : Option V) (u2 : Option V) (u3 : Option V), σ = [some vnet, some vstate, some vpoured, some vstuck, some v2, some v26, some v27, some v33, some v37, some v41, u1, u2, u3, none])) (ei_enumT (ev_var ((rTup rVessel).mono (((s15.trans s35).trans s39).trans s43) r6) rfl)) (fun F179 s180 => ⟨_, _, _, rfl⟩) (fun z47 x48 v49 F50 w51 s52 h53 r54 => by obtain ⟨o55, o56, o57, e58⟩ := h53; subst e58; exact b_go (go_t2 r54) (fun _ ⟨v59, v60, r61, r62, e63⟩ => by subst e63; exact b_σ (σ' := [some vnet, some vstate, some vpoured, some vstuck, some v2, some v26, some v27, some v33, some v37, some v41, some v59, some v60, o57, none]) rfl (b_set (ev_op vl_ixL (ev_var ((rLst rInt).mono (((s35.trans s39).trans s43).trans s52) r28) rfl) (ev_var r61 rfl)) fun v66 x67 F68 s69 r70 => b_σ (σ' := [some vnet, some vstate, some vpoured, some vstuck, some v2, some v26, some v27, some v33, some v37, some v41, some v59, some v60, some v66, none]) rfl (b_ifJ (Sl := (fun (z : Int) (F : Hp) (σ : L2.St) => ∃ (u1 : V), σ = [some vnet, some vstate, some vpoured, some vstuck, some v2, some v26, some v27, some v33, some v37, some v41, some v59, some v60, some u1, none] ∧ rInt.r F u1 z)) (et_test (ev_op vl_gt (ev_var r70 rfl) (ev_prj (prj_s prj_0) (ev_var (rVessel.mono s69 r62) rfl)))) (b_expr (ev_methS (f := fun x => mPourGive x.1 x.2) (hd_pour _) rfl (emb_l (emb_l (emb_r emb_id))) (ea_cons (ev_prj (prj_s (prj_s (prj_s (prj_s prj_0)))) (ev_var (rVessel.mono s69 r62) rfl)) (ea_one (ev_op vl_sub (ev_var r70 rfl) (ev_prj (prj_s prj_0) (ev_var (rVessel.mono s69 r62) rfl)))))) fun x82 F83 s84 => b_set (ev_prj (prj_s prj_0) (ev_var (rVessel.mono (s69.trans s84) r62) rfl)) fun v86 x87 F88 s89 r90 => b_σ (σ' := [some vnet, some vstate, some vpoured, some vstuck, some v2, some v26, some v27, some v33, some v37, some v41, some v59, some v60, some v86, none]) rfl (b_nx pr_id (fun F91 s92 => ⟨v86, rfl, (rInt.mono s92 r90)⟩))) (b_nx pr_id (fun F93 s94 => ⟨v66, rfl, (rInt.mono s94 r70)⟩)) (fun z95 F96 w97 s98 h99 => by obtain ⟨v101, e102, r103⟩ := h99; subst e102; exact b_ifJ (Sl := (fun (z : Int) (F : Hp) (σ : L2.St) => ∃ (u1 : V), σ = [some vnet, some vstate, some vpoured, some vstuck, some v2, some v26, some v27, some v33, some v37, some v41, some v59, some v60, some u1, none] ∧ rInt.r F u1 z)) (et_and (et_test (ev_op vl_ge (ev_var r103 rfl) (ev_prj prj_0 (ev_var (rVessel.mono (s69.trans s98) r62) rfl)))) (et_test (ev_op vl_neIO (ev_var (rInt.mono (s69.trans s98) r61) rfl) (ev_var ((rOpt rInt).mono (((((((s5.trans s15).trans s35).trans s39).trans s43).trans s52).trans s69).trans s98) rstuck) rfl)))) (b_set (ev_callS v33 (emb_l (emb_l (emb_r emb_id))) (ea_cons (ev_var (rVessel.mono (s69.trans s98) r62) rfl) (ea_cons (ev_var r103 rfl) (ea_one (ev_var (R := rV v33) (x := ()) rfl rfl))))) fun v116 x117 F118 s119 r120 => b_σ (σ' := [some vnet, some vstate, some vpoured, some vstuck, some v2, some v26, some v27, some v33, some v37, some v41, some v59, some v60, some v116, none]) rfl (b_app rfl (emb_r emb_id) (ev_var (rInt.mono ((s69.trans s98).trans s119) r61) rfl) (b_nx pr_id (fun F121 s122 => ⟨v116, rfl, (rInt.mono s122 r120)⟩)))) (b_nx pr_id (fun F125 s126 => ⟨v101, rfl, (rInt.mono s126 r103)⟩)) (fun z127 F128 w129 s130 h131 => by obtain ⟨v133, e134, r135⟩ := h131; subst e134; exact b_app rfl (emb_l (emb_r emb_id)) (ev_var r135 rfl) (b_nx pr_id (fun F136 s137 => ⟨_, _, _, rfl⟩)))))))) (fun z140 F141 w142 s143 h144 => by obtain ⟨o145, o146, o147, e148⟩ := h144; subst e148; exact b_fzL rm_r fun x149 F150 s151 r152 => b_set (ev_tup (by decide) (ea_cons (ev_cbO vh_tuple rfl (emb_r emb_id)) (ea_cons (ev_plater TP rfl (emb_l (emb_r emb_id))) (ea_one (ev_callP (ea_cons (ev_var (rNet.mono ((((((s5.trans s15).trans s35).trans s39).trans s43).trans s143).trans s151) rnet) rfl) (ea_cons (ev_prj (prj_s (prj_s prj_1)) (ev_var (rState.mono ((((((s5.trans s15).trans s35).trans s39).trans s43).trans s143).trans s151) rstate) rfl)) (ea_one (ev_var r152 rfl))))))))) fun v165 x166 F167 s168 r169 => b_σ (σ' := [some vnet, some vstate, some vpoured, some vstuck, some v2, some v26, some v27, some v33, some v37, some v41, o145, o146, o147, some v165]) rfl (b_ret pr_emp (ev_tup (by decide) (ea_cons (ev_var r169 rfl) (ea_cons (ev_cb vl_tupleL (ea_one (ev_var ((rLst rInt).mono s168 r152) rfl))) (ea_cons (ev_pground TP rfl (emb_l (emb_r emb_id))) (ea_one (ev_var (rInt.mono (((((s35.trans s39).trans s43).trans s143).trans s151).trans s168) r29) rfl)))))))) (fun _ _ _ _ s ⟨a0, a1, a2, e⟩ => ⟨a0, a1, a2, e⟩))))))
/-! _law_draw -/
abbrev s_law_draw : Stmt := top 19
abbrev N_law_draw : List Str := ["tape", "many", "prime", "cell", "found"]
theorem sc_law_draw : FnScope N_law_draw ["tape", "many"] (defScope s_law_draw) := ⟨rfl, rfl, rfl, by decide +kernel, rfl, by decide +kernel, by decide +kernel⟩
def m_law_draw (xmany : Int) : M Tape Int := bnd (ret (2305843009213693951 : Int)) fun x2 => bnd (bnd (bnd (gtL (fun s => s) fun a6 => some a6.2.2) fun a7 => bnd (ret xmany) fun b8 => lft (some (decide (a7 < b8)))) fun b9 => bif b9 then (bnd (ret (0 : Int)) fun x11 => bnd (bnd (bnd (bnd (gtL (fun s => s) fun a15 => some a15.1) fun a16 => lft (some (a16.length : Int))) fun a17 => bnd (ret (0 : Int)) fun b18 => lft (some (decide (b18 < a17)))) fun b19 => bif b19 then (bnd (bnd (gtL (fun s => s) fun a20 => some a20.1) fun a26 => bnd (bnd (gtL (fun s => s) fun a21 => some a21.2.1) fun a24 => bnd (bnd (gtL (fun s => s) fun a22 => some a22.1) fun a23 => lft (some (a23.length : Int))) fun b25 => lft (modI a24 b25)) fun b27 => lft (atI a26 b27)) fun x29 => fun s => some (x29, s)) else (fun s => some (x11, s))) fun z37 => bnd (bnd (bnd (bnd (gtL (fun s => s) fun a46 => some a46.2.1) fun a49 => bnd (bnd (gtL (fun s => s) fun a47 => some a47.1) fun a48 => lft (some (a48.length : Int))) fun b50 => lft (some (decide (b50 ≤ a49)))) fun b55 => bif b55 then ret true else (bnd (ret z37) fun a53 => bnd (bnd (ret (10 : Int)) fun a51 => bnd (ret (18 : Int)) fun b52 => lft (powI a51 b52)) fun b54 => lft (some (decide (a53 < b54))))) fun b56 => bif b56 then (bnd (bnd (bnd (ret z37) fun a60 => bnd (bnd (ret (1000003 : Int)) fun a58 => bnd (gtL (fun s => s) fun a57 => some a57.2.1) fun b59 => lft (mulI a58 b59)) fun b61 => lft (some (a60 + b61))) fun a62 => bnd (ret x2) fun b63 => lft (modI a62 b63)) fun x65 => bnd (bnd (bnd (bnd (bnd (ret x65) fun a69 => bnd (ret x65) fun b70 => lft (mulI a69 b70)) fun a73 => bnd (bnd (ret (1181783497276652981 : Int)) fun a71 => bnd (ret x65) fun b72 => lft (mulI a71 b72)) fun b74 => lft (some (a73 + b74))) fun a75 => bnd (ret (2049848353892358983 : Int)) fun b76 => lft (some (a75 + b76))) fun a77 => bnd (ret x2) fun b78 => lft (modI a77 b78)) fun x80 => bnd (bnd (bnd (bnd (ret x80) fun a84 => bnd (ret x80) fun b85 => lft (mulI a84 b85)) fun a86 => bnd (ret (1442695040888963407 : Int)) fun b87 => lft (some (a86 + b87))) fun a88 => bnd (ret x2) fun b89 => lft (modI a88 b89)) fun x91 => fun s => some (x91, s)) else (fun s => some (z37, s))) fun z99 => bnd (bnd (gtL (fun s => s) fun a108 => some a108.2.1) fun a109 => bnd (ret (1 : Int)) fun b110 => lft (some (a109 + b110))) fun a115 => bnd (upL (fun s => s) (fun s t => t) fun b116 => some (b116.1, a115, b116.2.2)) fun _ => bnd (ret z99) fun a113 => bnd (upL (fun s => s) (fun s t => t) fun b114 => some (b114.1, b114.2.1, a113)) fun _ => fun s => some ((), s)) else (fun s => some ((), s))) fun z119 => bnd (bnd (gtL (fun s => s) fun a127 => some a127.2.2) fun a128 => bnd (ret xmany) fun b129 => lft (modI a128 b129)) fun x131 => bnd (bnd (gtL (fun s => s) fun a135 => some a135.2.2) fun a136 => bnd (ret xmany) fun b137 => lft (divI a136 b137)) fun a139 => bnd (upL (fun s => s) (fun s t => t) fun b140 => some (b140.1, b140.2.1, a139)) fun _ => bnd (ret x131) fun x138 s => some (x138, s)
abbrev sp_law_draw : Sp := spS (fun v => (arC (rV v) (arOne rInt))) (fun v => oLh tapeA v) rInt (fun x => m_law_draw x.2)
theorem ok_law_draw {f : Addr} {fd : FuncData} (F : Fun K "_law_draw" "_law_draw" s_law_draw f fd) (T : Txt K mg) : FnOk P w K mg base CX0 1 f fd ["tape", "many"] sp_law_draw := by
  refine F.ok sc_law_draw (fun vs H Q E h => ?_) (fun cdv A outer s H vs Q E hr h => ?_)
  · obtain ⟨i, F, O, c, x, s, b, s1, ⟨_, _, rfl, _, ⟨_, rfl, _⟩⟩, _⟩ := h; rfl
  · obtain ⟨i0, F, O, c, ⟨_, xmany⟩, s, b, s1, ⟨vtape, _, rfl, rfl, ⟨vmany, rfl, rmany⟩⟩, ho, W, hm, k⟩ := h
    replace rmany : rInt.r F vmany xmany := rmany
    replace hm : m_law_draw xmany s = some (b, s1) := hm
    refine ⟨_, (pss_cons (ps_set (i := 2) sc_law_draw.nd rfl (Or.inl rfl) pe_int) (Evl.pss_cut (ps_if (pt_cmpR op_lt (pe_ix (kix_list (K := K)) (pv 0) pe_int (fun _ _ => rfl)) (pv 1) (nomark _)) (pss_cons (ps_set (i := 3) sc_law_draw.nd rfl (Or.inl rfl) pe_int) (Evl.pss_cut (ps_if (pt_cmpR op_gt (pe_callB (kc_len (K := K)) (by rfl) T.len (by decide +kernel) (pa_cons (pe_ix (kix_list (K := K)) (pv 0) pe_int (fun _ _ => rfl)) pa_nil)) pe_int (nomark _)) (pss_cons (ps_set (i := 3) sc_law_draw.nd rfl (Or.inl rfl) (pe_ix (kix_list (K := K)) (pe_ix (kix_list (K := K)) (pv 0) pe_int (fun _ _ => rfl)) (pe_op op_mod (pe_ix (kix_list (K := K)) (pv 0) pe_int (fun _ _ => rfl)) (pe_callB (kc_len (K := K)) (by rfl) T.len (by decide +kernel) (pa_cons (pe_ix (kix_list (K := K)) (pv 0) pe_int (fun _ _ => rfl)) pa_nil))) (fun _ _ => rfl))) pss_nil) pss_nil) (Evl.pss_cut (ps_if (PW.pt (pw_or (pt_cmpR op_ge (pe_ix (kix_list (K := K)) (pv 0) pe_int (fun _ _ => rfl)) (pe_callB (kc_len (K := K)) (by rfl) T.len (by decide +kernel) (pa_cons (pe_ix (kix_list (K := K)) (pv 0) pe_int (fun _ _ => rfl)) pa_nil)) (nomark _)) (pw_or1 (pt_cmpR op_lt (pv 3) (pe_op op_pow pe_int pe_int) (nomark _))))) (pss_cons (ps_set (i := 3) sc_law_draw.nd rfl (Or.inl rfl) (pe_op op_mod (pe_op op_add (pv 3) (pe_op op_mul pe_int (pe_ix (kix_list (K := K)) (pv 0) pe_int (fun _ _ => rfl)))) (pv 2))) (pss_cons (ps_set (i := 3) sc_law_draw.nd rfl (Or.inl rfl) (pe_op op_mod (pe_op op_add (pe_op op_add (pe_op op_mul (pv 3) (pv 3)) (pe_op op_mul pe_int (pv 3))) pe_int) (pv 2))) (pss_cons (ps_set (i := 3) sc_law_draw.nd rfl (Or.inl rfl) (pe_op op_mod (pe_op op_add (pe_op op_mul (pv 3) (pv 3)) pe_int) (pv 2))) pss_nil))) pss_nil) (pss_cons (ps_asg (pe_op op_add (pe_ix (kix_list (K := K)) (pv 0) pe_int (fun _ _ => rfl)) pe_int) (pg_sub (pv 0) pe_int set_list)) (pss_cons (ps_asg (pv 3) (pg_sub (pv 0) pe_int set_list)) pss_nil))))) pss_nil) (pss_cons (ps_set (i := 4) sc_law_draw.nd rfl (Or.inl rfl) (pe_op op_mod (pe_ix (kix_list (K := K)) (pv 0) pe_int (fun _ _ => rfl)) (pv 1))) (pss_cons (ps_asg (pe_op op_fdivW (pe_ix (kix_list (K := K)) (pv 0) pe_int (fun _ _ => rfl)) (pv 1)) (pg_sub (pv 0) pe_int set_list)) (pss_cons (ps_ret (pv 4)) pss_nil))))), ?_⟩
    refine ok_S W ho hm k ?_
    show B _ [some vtape, some vmany, none, none, none] F (oLh tapeA vtape) _ _
    exact b_set ev_int fun v1 x2 F3 s4 r5 => b_σ (σ' := [some vtape, some vmany, some v1, none, none]) rfl (b_ifJ (Sl := (fun (z : Unit) (F : Hp) (σ : L2.St) => ∃ (u1 : Option V), σ = [some vtape, some vmany, some v1, u1, none])) (et_test (ev_op vl_lt (ev_prjO rfl emb_id (prj_s (prj_s prj_1))) (ev_var (rInt.mono s4 rmany) rfl))) (b_set ev_int fun v10 x11 F12 s13 r14 => b_σ (σ' := [some vtape, some vmany, some v1, some v10, none]) rfl (b_ifJ (Sl := (fun (z : Int) (F : Hp) (σ : L2.St) => ∃ (u1 : V), σ = [some vtape, some vmany, some v1, some u1, none] ∧ rInt.r F u1 z)) (et_test (ev_op vl_gt (ev_cb vl_lenL (ea_one (ev_prjO rfl emb_id prj_0))) ev_int)) (b_set (ev_op vl_ixL (ev_prjO rfl emb_id prj_0) (ev_op vl_mod (ev_prjO rfl emb_id (prj_s prj_0)) (ev_cb vl_lenL (ea_one (ev_prjO rfl emb_id prj_0))))) fun v28 x29 F30 s31 r32 => b_σ (σ' := [some vtape, some vmany, some v1, some v28, none]) rfl (b_nx pr_id (fun F33 s34 => ⟨v28, rfl, (rInt.mono s34 r32)⟩))) (b_nx pr_id (fun F35 s36 => ⟨v10, rfl, (rInt.mono s36 r14)⟩)) (fun z37 F38 w39 s40 h41 => by obtain ⟨v43, e44, r45⟩ := h41; subst e44; exact b_ifJ (Sl := (fun (z : Int) (F : Hp) (σ : L2.St) => ∃ (u1 : V), σ = [some vtape, some vmany, some v1, some u1, none] ∧ rInt.r F u1 z)) (et_or (et_test (ev_op vl_ge (ev_prjO rfl emb_id (prj_s prj_0)) (ev_cb vl_lenL (ea_one (ev_prjO rfl emb_id prj_0))))) (et_test (ev_op vl_lt (ev_var r45 rfl) (ev_op vl_pow ev_int ev_int)))) (b_set (ev_op vl_mod (ev_op vl_add (ev_var r45 rfl) (ev_op vl_mul ev_int (ev_prjO rfl emb_id (prj_s prj_0)))) (ev_var (rInt.mono (s13.trans s40) r5) rfl)) fun v64 x65 F66 s67 r68 => b_σ (σ' := [some vtape, some vmany, some v1, some v64, none]) rfl (b_set (ev_op vl_mod (ev_op vl_add (ev_op vl_add (ev_op vl_mul (ev_var r68 rfl) (ev_var r68 rfl)) (ev_op vl_mul ev_int (ev_var r68 rfl))) ev_int) (ev_var (rInt.mono ((s13.trans s40).trans s67) r5) rfl)) fun v79 x80 F81 s82 r83 => b_σ (σ' := [some vtape, some vmany, some v1, some v79, none]) rfl (b_set (ev_op vl_mod (ev_op vl_add (ev_op vl_mul (ev_var r83 rfl) (ev_var r83 rfl)) ev_int) (ev_var (rInt.mono (((s13.trans s40).trans s67).trans s82) r5) rfl)) fun v90 x91 F92 s93 r94 => b_σ (σ' := [some vtape, some vmany, some v1, some v90, none]) rfl (b_nx pr_id (fun F95 s96 => ⟨v90, rfl, (rInt.mono s96 r94)⟩))))) (b_nx pr_id (fun F97 s98 => ⟨v43, rfl, (rInt.mono s98 r45)⟩)) (fun z99 F100 w101 s102 h103 => by obtain ⟨v105, e106, r107⟩ := h103; subst e106; exact b_setH rfl emb_id (pst_s pst_0) (ev_op vl_add (ev_prjO rfl emb_id (prj_s prj_0)) ev_int) (b_setH rfl emb_id (pst_s (pst_s pst_1)) (ev_var r107 rfl) (b_nx pr_id (fun F111 s112 => ⟨_, rfl⟩))))))) (b_nx pr_id (fun F117 s118 => ⟨_, rfl⟩)) (fun z119 F120 w121 s122 h123 => by obtain ⟨o125, e126⟩ := h123; subst e126; exact b_set (ev_op vl_mod (ev_prjO rfl emb_id (prj_s (prj_s prj_1))) (ev_var (rInt.mono (s4.trans s122) rmany) rfl)) fun v130 x131 F132 s133 r134 => b_σ (σ' := [some vtape, some vmany, some v1, o125, some v130]) rfl (b_setH rfl emb_id (pst_s (pst_s pst_1)) (ev_op vl_div (ev_prjO rfl emb_id (prj_s (prj_s prj_1))) (ev_var (rInt.mono ((s4.trans s122).trans s133) rmany) rfl)) (b_ret pr_id (ev_var r134 rfl)))))
/-! _law_outs -/
abbrev s_law_outs : Stmt := top 20
abbrev N_law_outs : List Str := ["tape", "many", "small", "outs", "k", "target", "parts"]
theorem sc_law_outs : FnScope N_law_outs ["tape", "many", "small"] (defScope s_law_outs) := ⟨rfl, rfl, rfl, by decide +kernel, rfl, by decide +kernel, by decide +kernel⟩
def m_law_outs (xmany : Int) (xsmall : Bool) : M Tape (List Out) := bnd (bnd (ret ([] : List Out)) fun a1 => lft (few a1)) (nw (bnd (bnd (bnd (ret (1 : Int)) fun a27 => bnd (bnd (bnd (bnd (bnd (bnd (ret ()) fun a11 => bnd (ret (2 : Int)) fun b12 => ret (a11, b12)) fun a13 => zm (fun s => s.1) (fun s t => (t, s.2)) (m_law_draw a13.2)) fun a19 => bnd (bnd (bnd (bnd (ret ()) fun a14 => bnd (ret (3 : Int)) fun b15 => ret (a14, b15)) fun a16 => zm (fun s => s.1) (fun s t => (t, s.2)) (m_law_draw a16.2)) fun a17 => bnd (ret []) fun b18 => ret (a17 :: b18)) fun b20 => ret (a19 :: b20)) fun a21 => lft (few a21)) fun a25 => bnd (bnd (bnd (ret ()) fun a22 => bnd (ret (2 : Int)) fun b23 => ret (a22, b23)) fun a24 => zm (fun s => s.1) (fun s t => (t, s.2)) (m_law_draw a24.2)) fun b26 => lft (atI a25 b26)) fun b28 => lft (some (a27 + b28))) fun a29 => lft (rng 0 a29)) fun q139 => bnd (fd (fun z32 x33 => bnd (bnd (bnd (bnd (ret (none : (Option Int))) fun a60 => bnd (bnd (bnd (bnd (bnd (ret ()) fun a50 => bnd (ret xmany) fun b51 => ret (a50, b51)) fun a52 => zm (fun s => s.1) (fun s t => (t, s.2)) (m_law_draw a52.2)) fun a => ret (some a)) fun a58 => bnd (bnd (bnd (bnd (bnd (ret ()) fun a53 => bnd (ret xmany) fun b54 => ret (a53, b54)) fun a55 => zm (fun s => s.1) (fun s t => (t, s.2)) (m_law_draw a55.2)) fun a => ret (some a)) fun a56 => bnd (ret []) fun b57 => ret (a56 :: b57)) fun b59 => ret (a58 :: b59)) fun b61 => ret (a60 :: b61)) fun a62 => lft (few a62)) fun a66 => bnd (bnd (bnd (ret ()) fun a63 => bnd (ret (3 : Int)) fun b64 => ret (a63, b64)) fun a65 => zm (fun s => s.1) (fun s t => (t, s.2)) (m_law_draw a65.2)) fun b67 => lft (atI a66 b67)) fun x69 => bnd (bnd (bnd (bnd (bnd (bnd (ret ()) fun a87 => bnd (ret (3 : Int)) fun b88 => ret (a87, b88)) fun a89 => zm (fun s => s.1) (fun s t => (t, s.2)) (m_law_draw a89.2)) fun a103 => bnd (bnd (bnd (bnd (ret ()) fun a98 => bnd (bnd (bnd (bnd (ret (60 : Int)) fun a92 => bnd (bnd (ret (3 : Int)) fun a90 => bnd (ret []) fun b91 => ret (a90 :: b91)) fun b93 => ret (a92 :: b93)) fun a94 => lft (few a94)) fun a96 => bnd (bnd (ret xsmall) fun a95 => lft (some (intB a95))) fun b97 => lft (atI a96 b97)) fun b99 => ret (a98, b99)) fun a100 => zm (fun s => s.1) (fun s t => (t, s.2)) (m_law_draw a100.2)) fun a101 => bnd (ret []) fun b102 => ret (a101 :: b102)) fun b104 => ret (a103 :: b104)) fun a105 => lft (few a105)) fun a111 => bnd (bnd (bnd (bnd (ret ()) fun a106 => bnd (ret (4 : Int)) fun b107 => ret (a106, b107)) fun a108 => zm (fun s => s.1) (fun s t => (t, s.2)) (m_law_draw a108.2)) fun a109 => bnd (ret (3 : Int)) fun b110 => lft (divI a109 b110)) fun b112 => lft (atI a111 b112)) fun x114 => bnd (bnd (ret x69) fun a120 => bnd (bnd (ret (1 : Int)) fun a118 => bnd (ret x114) fun b119 => lft (some (a118 + b119))) fun b121 => ret (a120, b121)) fun a124 => bnd (upL (fun s => s.2) (fun s t => (s.1, t)) fun b125 => app b125 a124) fun _ => fun s => some ((), s)) () q139) fun z126 => bnd (gtL (fun s => s.2) fun a135 => some a135) fun x136 s => some (x136, s.1)))
abbrev sp_law_outs : Sp := spS (fun v => (arC (rV v) (arC rInt (arOne rBool)))) (fun v => oLh tapeA v) (rTup rOut) (fun x => m_law_outs x.2.1 x.2.2)
theorem ok_law_outs {f : Addr} {fd : FuncData} (F : Fun K "_law_outs" "_law_outs" s_law_outs f fd) (T : Txt K mg) (c_law_draw : Kn P w K mg base CX0 1 "_law_draw" ["tape", "many"] sp_law_draw) : FnOk P w K mg base CX0 2 f fd ["tape", "many", "small"] sp_law_outs := by
  refine F.ok sc_law_outs (fun vs H Q E h => ?_) (fun cdv A outer s H vs Q E hr h => ?_)
  · obtain ⟨i, F, O, c, x, s, b, s1, ⟨_, _, rfl, _, ⟨_, _, rfl, _, ⟨_, rfl, _⟩⟩⟩, _⟩ := h; rfl
  · obtain ⟨i0, F, O, c, ⟨_, xmany, xsmall⟩, s, b, s1, ⟨vtape, _, rfl, rfl, ⟨vmany, _, rfl, rmany, ⟨vsmall, rfl, rsmall⟩⟩⟩, ho, W, hm, k⟩ := h
    replace rmany : rInt.r F vmany xmany := rmany
    replace rsmall : rBool.r F vsmall xsmall := rsmall
    replace hm : m_law_outs xmany xsmall s = some (b, s1) := hm
    refine ⟨_, (pss_cons (ps_set (i := 3) sc_law_outs.nd rfl (Or.inl rfl) (pe_lst pa_nil)) (pss_cons (ps_for PassesOwn.never (by rfl) (pi_range1 (by rfl) T.range (pa_cons (pe_op op_add pe_int (pe_ix (kix_list (K := K)) (pe_lst (pa_cons (pe_kn c_law_draw hr (by decide) (by rfl) (pa_cons (pv 0) (pa_cons pe_int pa_nil))) (pa_cons (pe_kn c_law_draw hr (by decide) (by rfl) (pa_cons (pv 0) (pa_cons pe_int pa_nil))) pa_nil))) (pe_kn c_law_draw hr (by decide) (by rfl) (pa_cons (pv 0) (pa_cons pe_int pa_nil))) (fun _ _ => rfl))) pa_nil)) (pg_name (i := 4) sc_law_outs.nd rfl (by first | exact Or.inl rfl | exact Or.inr rfl)) (pss_cons (ps_set (i := 5) sc_law_outs.nd rfl (Or.inl rfl) (pe_ix (kix_list (K := K)) (pe_lst (pa_cons pe_non (pa_cons (pe_kn c_law_draw hr (by decide) (by rfl) (pa_cons (pv 0) (pa_cons (pv 1) pa_nil))) (pa_cons (pe_kn c_law_draw hr (by decide) (by rfl) (pa_cons (pv 0) (pa_cons (pv 1) pa_nil))) pa_nil)))) (pe_kn c_law_draw hr (by decide) (by rfl) (pa_cons (pv 0) (pa_cons pe_int pa_nil))) (fun _ _ => rfl))) (pss_cons (ps_set (i := 6) sc_law_outs.nd rfl (Or.inl rfl) (pe_ix (kix_list (K := K)) (pe_lst (pa_cons (pe_kn c_law_draw hr (by decide) (by rfl) (pa_cons (pv 0) (pa_cons pe_int pa_nil))) (pa_cons (pe_kn c_law_draw hr (by decide) (by rfl) (pa_cons (pv 0) (pa_cons (pe_ix (kix_list (K := K)) (pe_lst (pa_cons pe_int (pa_cons pe_int pa_nil))) (pe_callTy call_int1 (by rfl) T.int (by decide +kernel) (pa_cons (pv 2) pa_nil)) (fun _ _ => rfl)) pa_nil))) pa_nil))) (pe_op op_fdivW (pe_kn c_law_draw hr (by decide) (by rfl) (pa_cons (pv 0) (pa_cons pe_int pa_nil))) pe_int) (fun _ _ => rfl))) (pss_cons (ps_expr (kpe_bm (K := K) PySem.F.plainAttrs_list PySem.F.slot_list_append PySem.F.type_list_append mt_append (pv 3) (pa_cons (pe_tup (pa_cons (pv 5) (pa_cons (pe_op op_add pe_int (pv 6)) pa_nil))) pa_nil))) pss_nil)))) (pss_cons (ps_ret (pe_callTy (kc_tuple (K := K)) (by rfl) T.tuple (by decide +kernel) (pa_cons (pv 3) pa_nil))) pss_nil))), ?_⟩
    refine ok_S W ho hm k ?_
    show B _ [some vtape, some vmany, some vsmall, none, none, none, none] F (oLh tapeA vtape) _ _
    exact b_new (eo_lst (eal_nil (R := rOut))) fun v2 F3 s4 => b_σ (σ' := [some vtape, some vmany, some vsmall, some v2, none, none, none]) rfl (b_for (z0 := ()) (Sl := (fun (z : Unit) (F : Hp) (σ : L2.St) => ∃ (u1 : Option V) (u2 : Option V) (u3 : Option V), σ = [some vtape, some vmany, some vsmall, some v2, u1, u2, u3])) (ei_rng1 (ev_op vl_add ev_int (ev_op vl_ixL (ev_frz (eo_lst (eal_cons (ev_callS vtape (emb_l emb_id) (ea_cons (ev_var (R := rV vtape) (x := ()) rfl rfl) (ea_one ev_int))) (eal_cons (ev_callS vtape (emb_l emb_id) (ea_cons (ev_var (R := rV vtape) (x := ()) rfl rfl) (ea_one ev_int))) eal_nil)))) (ev_callS vtape (emb_l emb_id) (ea_cons (ev_var (R := rV vtape) (x := ()) rfl rfl) (ea_one ev_int)))))) (fun F137 s138 => ⟨_, _, _, rfl⟩) (fun z32 x33 v34 F35 w36 s37 h38 r39 => by obtain ⟨o40, o41, o42, e43⟩ := h38; subst e43; exact b_go go_name (fun _ k => by subst k; exact b_σ (σ' := [some vtape, some vmany, some vsmall, some v2, some v34, o41, o42]) rfl (b_set (R := (rOpt rInt)) (ev_op vl_ixL (ev_frz (eo_lst (eal_cons (ev_nonO (R := rInt)) (eal_cons (ev_opt (ev_callS vtape (emb_l emb_id) (ea_cons (ev_var (R := rV vtape) (x := ()) rfl rfl) (ea_one (ev_var (rInt.mono (s4.trans s37) rmany) rfl))))) (eal_cons (ev_opt (ev_callS vtape (emb_l emb_id) (ea_cons (ev_var (R := rV vtape) (x := ()) rfl rfl) (ea_one (ev_var (rInt.mono (s4.trans s37) rmany) rfl))))) eal_nil))))) (ev_callS vtape (emb_l emb_id) (ea_cons (ev_var (R := rV vtape) (x := ()) rfl rfl) (ea_one ev_int)))) fun v68 x69 F70 s71 r72 => b_σ (σ' := [some vtape, some vmany, some vsmall, some v2, some v34, some v68, o42]) rfl (b_set (ev_op vl_ixL (ev_frz (eo_lst (eal_cons (ev_callS vtape (emb_l emb_id) (ea_cons (ev_var (R := rV vtape) (x := ()) rfl rfl) (ea_one ev_int))) (eal_cons (ev_callS vtape (emb_l emb_id) (ea_cons (ev_var (R := rV vtape) (x := ()) rfl rfl) (ea_one (ev_op vl_ixL (ev_frz (eo_lst (eal_cons ev_int (eal_cons ev_int eal_nil)))) (ev_cb vl_intB (ea_one (ev_var (rBool.mono ((s4.trans s37).trans s71) rsmall) rfl))))))) eal_nil)))) (ev_op vl_div (ev_callS vtape (emb_l emb_id) (ea_cons (ev_var (R := rV vtape) (x := ()) rfl rfl) (ea_one ev_int))) ev_int)) fun v113 x114 F115 s116 r117 => b_σ (σ' := [some vtape, some vmany, some vsmall, some v2, some v34, some v68, some v113]) rfl (b_app rfl (emb_r emb_id) (ev_tup (by decide) (ea_cons (ev_var ((rOpt rInt).mono s116 r72) rfl) (ea_one (ev_op vl_add ev_int (ev_var r117 rfl))))) (b_nx pr_id (fun F122 s123 => ⟨_, _, _, rfl⟩))))))) (fun z126 F127 w128 s129 h130 => by obtain ⟨o131, o132, o133, e134⟩ := h130; subst e134; exact b_ret (pr_l pr_id) (ev_cbO vh_tuple rfl (emb_r emb_id))) (fun _ _ _ _ s ⟨a0, a1, a2, e⟩ => ⟨a0, a1, a2, e⟩))
/-! _law_vessel -/
abbrev s_law_vessel : Stmt := top 21
abbrev N_law_vessel : List Str := ["tape", "number", "many", "spouts", "small", "size", "brim", "spill", "acts", "k"]
theorem sc_law_vessel : FnScope N_law_vessel ["tape", "number", "many", "spouts", "small"] (defScope s_law_vessel) := ⟨rfl, rfl, rfl, by decide +kernel, rfl, by decide +kernel, by decide +kernel⟩
def m_law_vessel (xnumber : Int) (xmany : Int) (xspouts : Int) (xsmall : Bool) : M Tape Vessel := bnd (bnd (ret (1 : Int)) fun a57 => bnd (bnd (bnd (bnd (bnd (bnd (ret ()) fun a31 => bnd (bnd (bnd (bnd (ret (9 : Int)) fun a25 => bnd (bnd (ret (4 : Int)) fun a23 => bnd (ret []) fun b24 => ret (a23 :: b24)) fun b26 => ret (a25 :: b26)) fun a27 => lft (few a27)) fun a29 => bnd (bnd (ret xsmall) fun a28 => lft (some (intB a28))) fun b30 => lft (atI a29 b30)) fun b32 => ret (a31, b32)) fun a33 => zm (fun s => s) (fun s t => t) (m_law_draw a33.2)) fun a47 => bnd (bnd (bnd (bnd (ret ()) fun a42 => bnd (bnd (bnd (bnd (ret (60 : Int)) fun a36 => bnd (bnd (ret (4 : Int)) fun a34 => bnd (ret []) fun b35 => ret (a34 :: b35)) fun b37 => ret (a36 :: b37)) fun a38 => lft (few a38)) fun a40 => bnd (bnd (ret xsmall) fun a39 => lft (some (intB a39))) fun b41 => lft (atI a40 b41)) fun b43 => ret (a42, b43)) fun a44 => zm (fun s => s) (fun s t => t) (m_law_draw a44.2)) fun a45 => bnd (ret []) fun b46 => ret (a45 :: b46)) fun b48 => ret (a47 :: b48)) fun a49 => lft (few a49)) fun a55 => bnd (bnd (bnd (bnd (ret ()) fun a50 => bnd (ret (4 : Int)) fun b51 => ret (a50, b51)) fun a52 => zm (fun s => s) (fun s t => t) (m_law_draw a52.2)) fun a53 => bnd (ret (3 : Int)) fun b54 => lft (divI a53 b54)) fun b56 => lft (atI a55 b56)) fun b58 => lft (some (a57 + b58))) fun x60 => bnd (bnd (ret x60) fun a88 => bnd (bnd (bnd (bnd (ret (0 : Int)) fun a76 => bnd (bnd (bnd (bnd (ret ()) fun a71 => bnd (bnd (ret (201 : Int)) fun a69 => bnd (ret x60) fun b70 => lft (some (a69 - b70))) fun b72 => ret (a71, b72)) fun a73 => zm (fun s => s) (fun s t => t) (m_law_draw a73.2)) fun a74 => bnd (ret []) fun b75 => ret (a74 :: b75)) fun b77 => ret (a76 :: b77)) fun a78 => lft (few a78)) fun a86 => bnd (bnd (bnd (bnd (ret ()) fun a79 => bnd (ret (2 : Int)) fun b80 => ret (a79, b80)) fun a81 => zm (fun s => s) (fun s t => t) (m_law_draw a81.2)) fun a84 => bnd (bnd (bnd (ret xsmall) fun b82 => ret (!b82)) fun a83 => lft (some (intB a83))) fun b85 => lft (mulI a84 b85)) fun b87 => lft (atI a86 b87)) fun b89 => lft (some (a88 + b89))) fun x91 => bnd (bnd (bnd (bnd (bnd (ret ()) fun a95 => bnd (ret (2 : Int)) fun b96 => ret (a95, b96)) fun a97 => zm (fun s => s) (fun s t => t) (m_law_draw a97.2)) fun a98 => bnd (ret (0 : Int)) fun b99 => lft (some (decide (a98 = b99)))) fun b100 => bif b100 then (bnd (bnd (ret x60) fun a104 => bnd (bnd (bnd (ret ()) fun a101 => bnd (ret (3 : Int)) fun b102 => ret (a101, b102)) fun a103 => zm (fun s => s) (fun s t => t) (m_law_draw a103.2)) fun b105 => lft (some (a104 + b105))) fun x107 => fun s => some (x107, s)) else (fun s => some (x91, s))) fun z115 => bnd (ret (none : (Option Int))) fun x125 => bnd (bnd (bnd (bnd (bnd (ret xnumber) fun a129 => bnd (ret (1 : Int)) fun b130 => lft (some (a129 + b130))) fun a131 => bnd (ret xmany) fun b132 => lft (some (decide (a131 < b132)))) fun b138 => bif b138 then (bnd (bnd (bnd (ret ()) fun a133 => bnd (ret (2 : Int)) fun b134 => ret (a133, b134)) fun a135 => zm (fun s => s) (fun s t => t) (m_law_draw a135.2)) fun a136 => bnd (ret (0 : Int)) fun b137 => lft (some (decide (a136 = b137)))) else ret false) fun b139 => bif b139 then (bnd (bnd (bnd (bnd (ret xnumber) fun a140 => bnd (ret (1 : Int)) fun b141 => lft (some (a140 + b141))) fun a149 => bnd (bnd (bnd (ret ()) fun a146 => bnd (bnd (bnd (ret xmany) fun a142 => bnd (ret xnumber) fun b143 => lft (some (a142 - b143))) fun a144 => bnd (ret (1 : Int)) fun b145 => lft (some (a144 - b145))) fun b147 => ret (a146, b147)) fun a148 => zm (fun s => s) (fun s t => t) (m_law_draw a148.2)) fun b150 => lft (some (a149 + b150))) fun a => ret (some a)) fun x152 => fun s => some (x152, s)) else (fun s => some (x125, s))) fun z160 => bnd (bnd (ret ([] : List Act)) fun a169 => lft (few a169)) (nw (bnd (bnd (bnd (ret xspouts) fun a173 => bnd (ret (0 : Int)) fun b174 => lft (some (decide (b174 < a173)))) fun b175 => bif b175 then (bnd (bnd (bnd (bnd (bnd (ret ()) fun a176 => bnd (ret (11 : Int)) fun b177 => ret (a176, b177)) fun a178 => zm (fun s => s.1) (fun s t => (t, s.2)) (m_law_draw a178.2)) fun a179 => bnd (ret (3 : Int)) fun b180 => lft (divI a179 b180)) fun a181 => lft (rng 0 a181)) fun q226 => bnd (fd (fun z184 x185 => bnd (bnd (bnd (bnd (bnd (ret ("open" : Str)) fun a198 => bnd (bnd (ret ("shut" : Str)) fun a196 => bnd (bnd (ret ("turn" : Str)) fun a194 => bnd (ret []) fun b195 => ret (a194 :: b195)) fun b197 => ret (a196 :: b197)) fun b199 => ret (a198 :: b199)) fun a200 => lft (few a200)) fun a204 => bnd (bnd (bnd (ret ()) fun a201 => bnd (ret (3 : Int)) fun b202 => ret (a201, b202)) fun a203 => zm (fun s => s.1) (fun s t => (t, s.2)) (m_law_draw a203.2)) fun b205 => lft (atI a204 b205)) fun a209 => bnd (bnd (bnd (ret ()) fun a206 => bnd (ret xspouts) fun b207 => ret (a206, b207)) fun a208 => zm (fun s => s.1) (fun s t => (t, s.2)) (m_law_draw a208.2)) fun b210 => ret (a209, b210)) fun a213 => bnd (upL (fun s => s.2) (fun s t => (s.1, t)) fun b214 => app b214 a213) fun _ => fun s => some ((), s)) () q226) fun z215 => fun s => some ((), s)) else (fun s => some ((), s))) fun z229 => bnd (bnd (ret x60) fun a256 => bnd (bnd (ret z115) fun a254 => bnd (bnd (bnd (bnd (ret ()) fun a239 => bnd (bnd (ret xmany) fun a237 => bnd (ret xsmall) fun b238 => ret (a237, b238)) fun b240 => ret (a239, b240)) fun a241 => zm (fun s => s.1) (fun s t => (t, s.2)) (m_law_outs a241.2.1 a241.2.2)) fun a252 => bnd (bnd (bnd (bnd (bnd (ret ()) fun a242 => bnd (ret (2 : Int)) fun b243 => ret (a242, b243)) fun a244 => zm (fun s => s.1) (fun s t => (t, s.2)) (m_law_draw a244.2)) fun a245 => bnd (ret (1 : Int)) fun b246 => lft (some (decide (a245 = b246)))) fun a250 => bnd (bnd (ret z160) fun a248 => bnd (gtL (fun s => s.2) fun a247 => some a247) fun b249 => ret (a248, b249)) fun b251 => ret (a250, b251)) fun b253 => ret (a252, b253)) fun b255 => ret (a254, b255)) fun b257 => ret (a256, b257)) fun x258 s => some (x258, s.1)))
abbrev sp_law_vessel : Sp := spS (fun v => (arC (rV v) (arC rInt (arC rInt (arC rInt (arOne rBool)))))) (fun v => oLh tapeA v) rVessel (fun x => m_law_vessel x.2.1 x.2.2.1 x.2.2.2.1 x.2.2.2.2)
theorem ok_law_vessel {f : Addr} {fd : FuncData} (F : Fun K "_law_vessel" "_law_vessel" s_law_vessel f fd) (T : Txt K mg) (c_law_draw : Kn P w K mg base CX0 1 "_law_draw" ["tape", "many"] sp_law_draw) (c_law_outs : Kn P w K mg base CX0 2 "_law_outs" ["tape", "many", "small"] sp_law_outs) : FnOk P w K mg base CX0 3 f fd ["tape", "number", "many", "spouts", "small"] sp_law_vessel := by
  refine F.ok sc_law_vessel (fun vs H Q E h => ?_) (fun cdv A outer s H vs Q E hr h => ?_)
  · obtain ⟨i, F, O, c, x, s, b, s1, ⟨_, _, rfl, _, ⟨_, _, rfl, _, ⟨_, _, rfl, _, ⟨_, _, rfl, _, ⟨_, rfl, _⟩⟩⟩⟩⟩, _⟩ := h; rfl
  · obtain ⟨i0, F, O, c, ⟨_, xnumber, xmany, xspouts, xsmall⟩, s, b, s1, ⟨vtape, _, rfl, rfl, ⟨vnumber, _, rfl, rnumber, ⟨vmany, _, rfl, rmany, ⟨vspouts, _, rfl, rspouts, ⟨vsmall, rfl, rsmall⟩⟩⟩⟩⟩, ho, W, hm, k⟩ := h
    replace rnumber : rInt.r F vnumber xnumber := rnumber
    replace rmany : rInt.r F vmany xmany := rmany
    replace rspouts : rInt.r F vspouts xspouts := rspouts
    replace rsmall : rBool.r F vsmall xsmall := rsmall
    replace hm : m_law_vessel xnumber xmany xspouts xsmall s = some (b, s1) := hm
    refine ⟨_, (pss_cons (ps_set (i := 5) sc_law_vessel.nd rfl (Or.inl rfl) (pe_op op_add pe_int (pe_ix (kix_list (K := K)) (pe_lst (pa_cons (pe_kn c_law_draw hr (by decide) (by rfl) (pa_cons (pv 0) (pa_cons (pe_ix (kix_list (K := K)) (pe_lst (pa_cons pe_int (pa_cons pe_int pa_nil))) (pe_callTy call_int1 (by rfl) T.int (by decide +kernel) (pa_cons (pv 4) pa_nil)) (fun _ _ => rfl)) pa_nil))) (pa_cons (pe_kn c_law_draw hr (by decide) (by rfl) (pa_cons (pv 0) (pa_cons (pe_ix (kix_list (K := K)) (pe_lst (pa_cons pe_int (pa_cons pe_int pa_nil))) (pe_callTy call_int1 (by rfl) T.int (by decide +kernel) (pa_cons (pv 4) pa_nil)) (fun _ _ => rfl)) pa_nil))) pa_nil))) (pe_op op_fdivW (pe_kn c_law_draw hr (by decide) (by rfl) (pa_cons (pv 0) (pa_cons pe_int pa_nil))) pe_int) (fun _ _ => rfl)))) (pss_cons (ps_set (i := 6) sc_law_vessel.nd rfl (Or.inl rfl) (pe_op op_add (pv 5) (pe_ix (kix_list (K := K)) (pe_lst (pa_cons pe_int (pa_cons (pe_kn c_law_draw hr (by decide) (by rfl) (pa_cons (pv 0) (pa_cons (pe_op op_sub pe_int (pv 5)) pa_nil))) pa_nil))) (pe_op op_mul (pe_kn c_law_draw hr (by decide) (by rfl) (pa_cons (pv 0) (pa_cons pe_int pa_nil))) (pe_callTy call_int1 (by rfl) T.int (by decide +kernel) (pa_cons (pe_not (pv 4)) pa_nil))) (fun _ _ => rfl)))) (Evl.pss_cut (ps_if (pt_cmpR op_eq (pe_kn c_law_draw hr (by decide) (by rfl) (pa_cons (pv 0) (pa_cons pe_int pa_nil))) pe_int (nomark _)) (pss_cons (ps_set (i := 6) sc_law_vessel.nd rfl (Or.inl rfl) (pe_op op_add (pv 5) (pe_kn c_law_draw hr (by decide) (by rfl) (pa_cons (pv 0) (pa_cons pe_int pa_nil))))) pss_nil) pss_nil) (pss_cons (ps_set (i := 7) sc_law_vessel.nd rfl (Or.inl rfl) pe_non) (Evl.pss_cut (ps_if (PW.pt (pw_and (pt_cmpR op_lt (pe_op op_add (pv 1) pe_int) (pv 2) (nomark _)) (pw_and1 (pt_cmpR op_eq (pe_kn c_law_draw hr (by decide) (by rfl) (pa_cons (pv 0) (pa_cons pe_int pa_nil))) pe_int (nomark _))))) (pss_cons (ps_set (i := 7) sc_law_vessel.nd rfl (Or.inl rfl) (pe_op op_add (pe_op op_add (pv 1) pe_int) (pe_kn c_law_draw hr (by decide) (by rfl) (pa_cons (pv 0) (pa_cons (pe_op op_sub (pe_op op_sub (pv 2) (pv 1)) pe_int) pa_nil))))) pss_nil) pss_nil) (pss_cons (ps_set (i := 8) sc_law_vessel.nd rfl (Or.inl rfl) (pe_lst pa_nil)) (Evl.pss_cut (ps_if (pt_cmpR op_gt (pv 3) pe_int (nomark _)) (pss_cons (ps_for PassesOwn.never (by rfl) (pi_range1 (by rfl) T.range (pa_cons (pe_op op_fdivW (pe_kn c_law_draw hr (by decide) (by rfl) (pa_cons (pv 0) (pa_cons pe_int pa_nil))) pe_int) pa_nil)) (pg_name (i := 9) sc_law_vessel.nd rfl (by first | exact Or.inl rfl | exact Or.inr rfl)) (pss_cons (ps_expr (kpe_bm (K := K) PySem.F.plainAttrs_list PySem.F.slot_list_append PySem.F.type_list_append mt_append (pv 8) (pa_cons (pe_tup (pa_cons (pe_ix (kix_list (K := K)) (pe_lst (pa_cons pe_str (pa_cons pe_str (pa_cons pe_str pa_nil)))) (pe_kn c_law_draw hr (by decide) (by rfl) (pa_cons (pv 0) (pa_cons pe_int pa_nil))) (fun _ _ => rfl)) (pa_cons (pe_kn c_law_draw hr (by decide) (by rfl) (pa_cons (pv 0) (pa_cons (pv 3) pa_nil))) pa_nil))) pa_nil))) pss_nil)) pss_nil) pss_nil) (pss_cons (ps_ret (pe_tup (pa_cons (pv 5) (pa_cons (pv 6) (pa_cons (pe_kn c_law_outs hr (by decide) (by rfl) (pa_cons (pv 0) (pa_cons (pv 2) (pa_cons (pv 4) pa_nil)))) (pa_cons (pe_cmpR op_eq (pe_kn c_law_draw hr (by decide) (by rfl) (pa_cons (pv 0) (pa_cons pe_int pa_nil))) pe_int (nomark _)) (pa_cons (pv 7) (pa_cons (pe_callTy (kc_tuple (K := K)) (by rfl) T.tuple (by decide +kernel) (pa_cons (pv 8) pa_nil)) pa_nil)))))))) pss_nil)))))))), ?_⟩
    refine ok_S W ho hm k ?_
    show B _ [some vtape, some vnumber, some vmany, some vspouts, some vsmall, none, none, none, none, none] F (oLh tapeA vtape) _ _
    exact b_set (ev_op vl_add ev_int (ev_op vl_ixL (ev_frz (eo_lst (eal_cons (ev_callS vtape emb_id (ea_cons (ev_var (R := rV vtape) (x := ()) rfl rfl) (ea_one (ev_op vl_ixL (ev_frz (eo_lst (eal_cons ev_int (eal_cons ev_int eal_nil)))) (ev_cb vl_intB (ea_one (ev_var rsmall rfl))))))) (eal_cons (ev_callS vtape emb_id (ea_cons (ev_var (R := rV vtape) (x := ()) rfl rfl) (ea_one (ev_op vl_ixL (ev_frz (eo_lst (eal_cons ev_int (eal_cons ev_int eal_nil)))) (ev_cb vl_intB (ea_one (ev_var rsmall rfl))))))) eal_nil)))) (ev_op vl_div (ev_callS vtape emb_id (ea_cons (ev_var (R := rV vtape) (x := ()) rfl rfl) (ea_one ev_int))) ev_int))) fun v59 x60 F61 s62 r63 => b_σ (σ' := [some vtape, some vnumber, some vmany, some vspouts, some vsmall, some v59, none, none, none, none]) rfl (b_set (ev_op vl_add (ev_var r63 rfl) (ev_op vl_ixL (ev_frz (eo_lst (eal_cons ev_int (eal_cons (ev_callS vtape emb_id (ea_cons (ev_var (R := rV vtape) (x := ()) rfl rfl) (ea_one (ev_op vl_sub ev_int (ev_var r63 rfl))))) eal_nil)))) (ev_op vl_mul (ev_callS vtape emb_id (ea_cons (ev_var (R := rV vtape) (x := ()) rfl rfl) (ea_one ev_int))) (ev_cb vl_intB (ea_one (ev_not (ev_var (rBool.mono s62 rsmall) rfl))))))) fun v90 x91 F92 s93 r94 => b_σ (σ' := [some vtape, some vnumber, some vmany, some vspouts, some vsmall, some v59, some v90, none, none, none]) rfl (b_ifJ (Sl := (fun (z : Int) (F : Hp) (σ : L2.St) => ∃ (u1 : V), σ = [some vtape, some vnumber, some vmany, some vspouts, some vsmall, some v59, some u1, none, none, none] ∧ rInt.r F u1 z)) (et_test (ev_op vl_eqI (ev_callS vtape emb_id (ea_cons (ev_var (R := rV vtape) (x := ()) rfl rfl) (ea_one ev_int))) ev_int)) (b_set (ev_op vl_add (ev_var (rInt.mono s93 r63) rfl) (ev_callS vtape emb_id (ea_cons (ev_var (R := rV vtape) (x := ()) rfl rfl) (ea_one ev_int)))) fun v106 x107 F108 s109 r110 => b_σ (σ' := [some vtape, some vnumber, some vmany, some vspouts, some vsmall, some v59, some v106, none, none, none]) rfl (b_nx pr_id (fun F111 s112 => ⟨v106, rfl, (rInt.mono s112 r110)⟩))) (b_nx pr_id (fun F113 s114 => ⟨v90, rfl, (rInt.mono s114 r94)⟩)) (fun z115 F116 w117 s118 h119 => by obtain ⟨v121, e122, r123⟩ := h119; subst e122; exact b_set (R := (rOpt rInt)) (ev_nonO (R := rInt)) fun v124 x125 F126 s127 r128 => b_σ (σ' := [some vtape, some vnumber, some vmany, some vspouts, some vsmall, some v59, some v121, some v124, none, none]) rfl (b_ifJ (Sl := (fun (z : (Option Int)) (F : Hp) (σ : L2.St) => ∃ (u1 : V), σ = [some vtape, some vnumber, some vmany, some vspouts, some vsmall, some v59, some v121, some u1, none, none] ∧ (rOpt rInt).r F u1 z)) (et_and (et_test (ev_op vl_lt (ev_op vl_add (ev_var (rInt.mono (((s62.trans s93).trans s118).trans s127) rnumber) rfl) ev_int) (ev_var (rInt.mono (((s62.trans s93).trans s118).trans s127) rmany) rfl))) (et_test (ev_op vl_eqI (ev_callS vtape emb_id (ea_cons (ev_var (R := rV vtape) (x := ()) rfl rfl) (ea_one ev_int))) ev_int))) (b_set (R := (rOpt rInt)) (ev_opt (ev_op vl_add (ev_op vl_add (ev_var (rInt.mono (((s62.trans s93).trans s118).trans s127) rnumber) rfl) ev_int) (ev_callS vtape emb_id (ea_cons (ev_var (R := rV vtape) (x := ()) rfl rfl) (ea_one (ev_op vl_sub (ev_op vl_sub (ev_var (rInt.mono (((s62.trans s93).trans s118).trans s127) rmany) rfl) (ev_var (rInt.mono (((s62.trans s93).trans s118).trans s127) rnumber) rfl)) ev_int)))))) fun v151 x152 F153 s154 r155 => b_σ (σ' := [some vtape, some vnumber, some vmany, some vspouts, some vsmall, some v59, some v121, some v151, none, none]) rfl (b_nx pr_id (fun F156 s157 => ⟨v151, rfl, ((rOpt rInt).mono s157 r155)⟩))) (b_nx pr_id (fun F158 s159 => ⟨v124, rfl, ((rOpt rInt).mono s159 r128)⟩)) (fun z160 F161 w162 s163 h164 => by obtain ⟨v166, e167, r168⟩ := h164; subst e167; exact b_new (eo_lst (eal_nil (R := rAct))) fun v170 F171 s172 => b_σ (σ' := [some vtape, some vnumber, some vmany, some vspouts, some vsmall, some v59, some v121, some v166, some v170, none]) rfl (b_ifJ (Sl := (fun (z : Unit) (F : Hp) (σ : L2.St) => ∃ (u1 : Option V), σ = [some vtape, some vnumber, some vmany, some vspouts, some vsmall, some v59, some v121, some v166, some v170, u1])) (et_test (ev_op vl_gt (ev_var (rInt.mono (((((s62.trans s93).trans s118).trans s127).trans s163).trans s172) rspouts) rfl) ev_int)) (b_for (z0 := ()) (Sl := (fun (z : Unit) (F : Hp) (σ : L2.St) => ∃ (u1 : Option V), σ = [some vtape, some vnumber, some vmany, some vspouts, some vsmall, some v59, some v121, some v166, some v170, u1])) (ei_rng1 (ev_op vl_div (ev_callS vtape (emb_l emb_id) (ea_cons (ev_var (R := rV vtape) (x := ()) rfl rfl) (ea_one ev_int))) ev_int)) (fun F224 s225 => ⟨_, rfl⟩) (fun z184 x185 v186 F187 w188 s189 h190 r191 => by obtain ⟨o192, e193⟩ := h190; subst e193; exact b_go go_name (fun _ k => by subst k; exact b_σ (σ' := [some vtape, some vnumber, some vmany, some vspouts, some vsmall, some v59, some v121, some v166, some v170, some v186]) rfl (b_app rfl (emb_r emb_id) (ev_tup (by decide) (ea_cons (ev_op vl_ixL (ev_frz (eo_lst (eal_cons ev_str (eal_cons ev_str (eal_cons ev_str eal_nil))))) (ev_callS vtape (emb_l emb_id) (ea_cons (ev_var (R := rV vtape) (x := ()) rfl rfl) (ea_one ev_int)))) (ea_one (ev_callS vtape (emb_l emb_id) (ea_cons (ev_var (R := rV vtape) (x := ()) rfl rfl) (ea_one (ev_var (rInt.mono ((((((s62.trans s93).trans s118).trans s127).trans s163).trans s172).trans s189) rspouts) rfl))))))) (b_nx pr_id (fun F211 s212 => ⟨_, rfl⟩))))) (fun z215 F216 w217 s218 h219 => by obtain ⟨o220, e221⟩ := h219; subst e221; exact b_nx pr_id (fun F222 s223 => ⟨_, rfl⟩)) (fun _ _ _ _ s ⟨a0, e⟩ => ⟨a0, e⟩)) (b_nx pr_id (fun F227 s228 => ⟨_, rfl⟩)) (fun z229 F230 w231 s232 h233 => by obtain ⟨o235, e236⟩ := h233; subst e236; exact b_ret (pr_l pr_id) (ev_tup (by decide) (ea_cons (ev_var (rInt.mono (((((s93.trans s118).trans s127).trans s163).trans s172).trans s232) r63) rfl) (ea_cons (ev_var (rInt.mono (((s127.trans s163).trans s172).trans s232) r123) rfl) (ea_cons (ev_callS vtape (emb_l emb_id) (ea_cons (ev_var (R := rV vtape) (x := ()) rfl rfl) (ea_cons (ev_var (rInt.mono ((((((s62.trans s93).trans s118).trans s127).trans s163).trans s172).trans s232) rmany) rfl) (ea_one (ev_var (rBool.mono ((((((s62.trans s93).trans s118).trans s127).trans s163).trans s172).trans s232) rsmall) rfl))))) (ea_cons (ev_op vl_eqI (ev_callS vtape (emb_l emb_id) (ea_cons (ev_var (R := rV vtape) (x := ()) rfl rfl) (ea_one ev_int))) ev_int) (ea_cons (ev_var ((rOpt rInt).mono (s172.trans s232) r168) rfl) (ea_one (ev_cbO vh_tuple rfl (emb_r emb_id))))))))))))))))
/-! _law_net -/
abbrev s_law_net : Stmt := top 22
abbrev N_law_net : List Str := ["tape", "most", "small", "many", "spouts", "vessels", "found", "k", "flow"]
theorem sc_law_net : FnScope N_law_net ["tape", "most", "small"] (defScope s_law_net) := ⟨rfl, rfl, rfl, by decide +kernel, rfl, by decide +kernel, by decide +kernel⟩
def m_law_net (xmost : Int) (xsmall : Bool) : M Tape Net := bnd (bnd (ret (1 : Int)) fun a4 => bnd (bnd (bnd (ret ()) fun a1 => bnd (ret xmost) fun b2 => ret (a1, b2)) fun a3 => zm (fun s => s) (fun s t => t) (m_law_draw a3.2)) fun b5 => lft (some (a4 + b5))) fun x7 => bnd (bnd (bnd (bnd (bnd (bnd (ret ()) fun a17 => bnd (ret (4 : Int)) fun b18 => ret (a17, b18)) fun a19 => zm (fun s => s) (fun s t => t) (m_law_draw a19.2)) fun a25 => bnd (bnd (bnd (bnd (ret ()) fun a20 => bnd (ret (13 : Int)) fun b21 => ret (a20, b21)) fun a22 => zm (fun s => s) (fun s t => t) (m_law_draw a22.2)) fun a23 => bnd (ret []) fun b24 => ret (a23 :: b24)) fun b26 => ret (a25 :: b26)) fun a27 => lft (few a27)) fun a33 => bnd (bnd (bnd (bnd (ret ()) fun a28 => bnd (ret (4 : Int)) fun b29 => ret (a28, b29)) fun a30 => zm (fun s => s) (fun s t => t) (m_law_draw a30.2)) fun a31 => bnd (ret (3 : Int)) fun b32 => lft (divI a31 b32)) fun b34 => lft (atI a33 b34)) fun x36 => bnd (bnd (bnd (ret x7) fun a40 => lft (rng 0 a40)) fun q58 => bnd (lft (chk q58)) fun q59 => mp (fun x42 => bnd (bnd (ret ()) fun a54 => bnd (bnd (ret x42) fun a52 => bnd (bnd (ret x7) fun a50 => bnd (bnd (ret x36) fun a48 => bnd (ret xsmall) fun b49 => ret (a48, b49)) fun b51 => ret (a50, b51)) fun b53 => ret (a52, b53)) fun b55 => ret (a54, b55)) fun a56 => zm (fun s => s) (fun s t => t) (m_law_vessel a56.2.1 a56.2.2.1 a56.2.2.2.1 a56.2.2.2.2)) q59) fun x61 => bnd (bnd (ret ([] : List Spout)) fun a65 => lft (few a65)) (nw (bnd (bnd (ret x36) fun a69 => lft (rng 0 a69)) fun q159 => bnd (fd (fun z72 x73 => bnd (bnd (bnd (bnd (bnd (bnd (ret ()) fun a97 => bnd (ret (4 : Int)) fun b98 => ret (a97, b98)) fun a99 => zm (fun s => s.1) (fun s t => (t, s.2)) (m_law_draw a99.2)) fun a113 => bnd (bnd (bnd (bnd (ret ()) fun a108 => bnd (bnd (bnd (bnd (ret (61 : Int)) fun a102 => bnd (bnd (ret (4 : Int)) fun a100 => bnd (ret []) fun b101 => ret (a100 :: b101)) fun b103 => ret (a102 :: b103)) fun a104 => lft (few a104)) fun a106 => bnd (bnd (ret xsmall) fun a105 => lft (some (intB a105))) fun b107 => lft (atI a106 b107)) fun b109 => ret (a108, b109)) fun a110 => zm (fun s => s.1) (fun s t => (t, s.2)) (m_law_draw a110.2)) fun a111 => bnd (ret []) fun b112 => ret (a111 :: b112)) fun b114 => ret (a113 :: b114)) fun a115 => lft (few a115)) fun a121 => bnd (bnd (bnd (bnd (ret ()) fun a116 => bnd (ret (4 : Int)) fun b117 => ret (a116, b117)) fun a118 => zm (fun s => s.1) (fun s t => (t, s.2)) (m_law_draw a118.2)) fun a119 => bnd (ret (3 : Int)) fun b120 => lft (divI a119 b120)) fun b122 => lft (atI a121 b122)) fun x124 => bnd (bnd (bnd (bnd (ret ()) fun a128 => bnd (ret x7) fun b129 => ret (a128, b129)) fun a130 => zm (fun s => s.1) (fun s t => (t, s.2)) (m_law_draw a130.2)) fun a138 => bnd (bnd (ret x124) fun a136 => bnd (bnd (bnd (bnd (ret ()) fun a131 => bnd (ret (4 : Int)) fun b132 => ret (a131, b132)) fun a133 => zm (fun s => s.1) (fun s t => (t, s.2)) (m_law_draw a133.2)) fun a134 => bnd (ret (0 : Int)) fun b135 => lft (some (decide (b135 < a134)))) fun b137 => ret (a136, b137)) fun b139 => ret (a138, b139)) fun a142 => bnd (upL (fun s => s.2) (fun s t => (s.1, t)) fun b143 => app b143 a142) fun _ => fun s => some ((), s)) () q159) fun z144 => bnd (bnd (bnd (ret x61) fun a152 => lft (some a152)) fun a154 => bnd (gtL (fun s => s.2) fun a153 => some a153) fun b155 => ret (a154, b155)) fun x156 s => some (x156, s.1)))
abbrev sp_law_net : Sp := spS (fun v => (arC (rV v) (arC rInt (arOne rBool)))) (fun v => oLh tapeA v) rNet (fun x => m_law_net x.2.1 x.2.2)
theorem ok_law_net {f : Addr} {fd : FuncData} (F : Fun K "_law_net" "_law_net" s_law_net f fd) (T : Txt K mg) (c_law_draw : Kn P w K mg base CX0 1 "_law_draw" ["tape", "many"] sp_law_draw) (c_law_vessel : Kn P w K mg base CX0 3 "_law_vessel" ["tape", "number", "many", "spouts", "small"] sp_law_vessel) : FnOk P w K mg base CX0 4 f fd ["tape", "most", "small"] sp_law_net := by
  refine F.ok sc_law_net (fun vs H Q E h => ?_) (fun cdv A outer s H vs Q E hr h => ?_)
  · obtain ⟨i, F, O, c, x, s, b, s1, ⟨_, _, rfl, _, ⟨_, _, rfl, _, ⟨_, rfl, _⟩⟩⟩, _⟩ := h; rfl
  · obtain ⟨i0, F, O, c, ⟨_, xmost, xsmall⟩, s, b, s1, ⟨vtape, _, rfl, rfl, ⟨vmost, _, rfl, rmost, ⟨vsmall, rfl, rsmall⟩⟩⟩, ho, W, hm, k⟩ := h
    replace rmost : rInt.r F vmost xmost := rmost
    replace rsmall : rBool.r F vsmall xsmall := rsmall
    replace hm : m_law_net xmost xsmall s = some (b, s1) := hm
    refine ⟨_, (pss_cons (ps_set (i := 3) sc_law_net.nd rfl (Or.inr rfl) (pe_op op_add pe_int (pe_kn c_law_draw hr (by decide) (by rfl) (pa_cons (pv 0) (pa_cons (pv 1) pa_nil))))) (pss_cons (ps_set (i := 4) sc_law_net.nd rfl (Or.inr rfl) (pe_ix (kix_list (K := K)) (pe_lst (pa_cons (pe_kn c_law_draw hr (by decide) (by rfl) (pa_cons (pv 0) (pa_cons pe_int pa_nil))) (pa_cons (pe_kn c_law_draw hr (by decide) (by rfl) (pa_cons (pv 0) (pa_cons pe_int pa_nil))) pa_nil))) (pe_op op_fdivW (pe_kn c_law_draw hr (by decide) (by rfl) (pa_cons (pv 0) (pa_cons pe_int pa_nil))) pe_int) (fun _ _ => rfl))) (pss_cons (ps_setLc (i := 5) (g := (gName 7)) (tt := tYes) (by rfl) sc_law_net.nd rfl rfl (sw_true rfl rfl rfl (by decide +kernel)) (pi_range1 (by rfl) T.range (pa_cons (pv 3) pa_nil)) (blkOk_by (N := N_law_net) (sc := defScope s_law_net) (own := [("k", 7)]) (by decide +kernel)) (fun _ _ _ _ _ => (pg_name (i := 7) sc_law_net.nd rfl (by first | exact Or.inl rfl | exact Or.inr rfl))) (fun _ _ _ _ _ => pts_nil) (fun _ _ _ _ _ => (pe_kn c_law_vessel hr (by decide) (by rfl) (pa_cons (pv 0) (pa_cons (pv 7) (pa_cons (pv 3) (pa_cons (pv 4) (pa_cons (pv 2) pa_nil)))))))) (pss_cons (ps_set (i := 6) sc_law_net.nd rfl (Or.inl rfl) (pe_lst pa_nil)) (pss_cons (ps_for PassesOwn.never (by rfl) (pi_range1 (by rfl) T.range (pa_cons (pv 4) pa_nil)) (pg_name (i := 7) sc_law_net.nd rfl (by first | exact Or.inl rfl | exact Or.inr rfl)) (pss_cons (ps_set (i := 8) sc_law_net.nd rfl (Or.inl rfl) (pe_ix (kix_list (K := K)) (pe_lst (pa_cons (pe_kn c_law_draw hr (by decide) (by rfl) (pa_cons (pv 0) (pa_cons pe_int pa_nil))) (pa_cons (pe_kn c_law_draw hr (by decide) (by rfl) (pa_cons (pv 0) (pa_cons (pe_ix (kix_list (K := K)) (pe_lst (pa_cons pe_int (pa_cons pe_int pa_nil))) (pe_callTy call_int1 (by rfl) T.int (by decide +kernel) (pa_cons (pv 2) pa_nil)) (fun _ _ => rfl)) pa_nil))) pa_nil))) (pe_op op_fdivW (pe_kn c_law_draw hr (by decide) (by rfl) (pa_cons (pv 0) (pa_cons pe_int pa_nil))) pe_int) (fun _ _ => rfl))) (pss_cons (ps_expr (kpe_bm (K := K) PySem.F.plainAttrs_list PySem.F.slot_list_append PySem.F.type_list_append mt_append (pv 6) (pa_cons (pe_tup (pa_cons (pe_kn c_law_draw hr (by decide) (by rfl) (pa_cons (pv 0) (pa_cons (pv 3) pa_nil))) (pa_cons (pv 8) (pa_cons (pe_cmpR op_gt (pe_kn c_law_draw hr (by decide) (by rfl) (pa_cons (pv 0) (pa_cons pe_int pa_nil))) pe_int (nomark _)) pa_nil)))) pa_nil))) pss_nil))) (pss_cons (ps_ret (pe_tup (pa_cons (pe_callTy (kc_tuple (K := K)) (by rfl) T.tuple (by decide +kernel) (pa_cons (pv 5) pa_nil)) (pa_cons (pe_callTy (kc_tuple (K := K)) (by rfl) T.tuple (by decide +kernel) (pa_cons (pv 6) pa_nil)) pa_nil)))) pss_nil)))))), ?_⟩
    refine ok_S W ho hm k ?_
    show B _ [some vtape, some vmost, some vsmall, none, none, none, none, none, none] F (oLh tapeA vtape) _ _
    exact b_set (ev_op vl_add ev_int (ev_callS vtape emb_id (ea_cons (ev_var (R := rV vtape) (x := ()) rfl rfl) (ea_one (ev_var rmost rfl))))) fun v6 x7 F8 s9 r10 => b_σ (σ' := [some vtape, some vmost, some vsmall, some v6, none, none, none, none, none]) rfl (b_set (ev_op vl_ixL (ev_frz (eo_lst (eal_cons (ev_callS vtape emb_id (ea_cons (ev_var (R := rV vtape) (x := ()) rfl rfl) (ea_one ev_int))) (eal_cons (ev_callS vtape emb_id (ea_cons (ev_var (R := rV vtape) (x := ()) rfl rfl) (ea_one ev_int))) eal_nil)))) (ev_op vl_div (ev_callS vtape emb_id (ea_cons (ev_var (R := rV vtape) (x := ()) rfl rfl) (ea_one ev_int))) ev_int)) fun v35 x36 F37 s38 r39 => b_σ (σ' := [some vtape, some vmost, some vsmall, some v6, some v35, none, none, none, none]) rfl (b_set (ev_frz (eo_lcA (ei_rng1 (ev_var (rInt.mono s38 r10) rfl)) (fun v41 x42 F43 s44 r45 => cb_all go_name (fun w46 k47 => by subst k47; exact wipe_s _ _ (by decide) (wipe_w _ _)) (fun w46 k47 => by subst k47; exact ev_σ (σ' := [some vtape, some vmost, some vsmall, some v6, some v35, none, none, some v41, none]) rfl (ev_callS vtape emb_id (ea_cons (ev_var (R := rV vtape) (x := ()) rfl rfl) (ea_cons (ev_var r45 rfl) (ea_cons (ev_var (rInt.mono (s38.trans s44) r10) rfl) (ea_cons (ev_var (rInt.mono s44 r39) rfl) (ea_one (ev_var (rBool.mono ((s9.trans s38).trans s44) rsmall) rfl))))))))))) fun v60 x61 F62 s63 r64 => b_σ (σ' := [some vtape, some vmost, some vsmall, some v6, some v35, some v60, none, none, none]) rfl (b_new (eo_lst (eal_nil (R := rSpout))) fun v66 F67 s68 => b_σ (σ' := [some vtape, some vmost, some vsmall, some v6, some v35, some v60, some v66, none, none]) rfl (b_for (z0 := ()) (Sl := (fun (z : Unit) (F : Hp) (σ : L2.St) => ∃ (u1 : Option V) (u2 : Option V), σ = [some vtape, some vmost, some vsmall, some v6, some v35, some v60, some v66, u1, u2])) (ei_rng1 (ev_var (rInt.mono (s63.trans s68) r39) rfl)) (fun F157 s158 => ⟨_, _, rfl⟩) (fun z72 x73 v74 F75 w76 s77 h78 r79 => by obtain ⟨o80, o81, e82⟩ := h78; subst e82; exact b_go go_name (fun _ k => by subst k; exact b_σ (σ' := [some vtape, some vmost, some vsmall, some v6, some v35, some v60, some v66, some v74, o81]) rfl (b_set (ev_op vl_ixL (ev_frz (eo_lst (eal_cons (ev_callS vtape (emb_l emb_id) (ea_cons (ev_var (R := rV vtape) (x := ()) rfl rfl) (ea_one ev_int))) (eal_cons (ev_callS vtape (emb_l emb_id) (ea_cons (ev_var (R := rV vtape) (x := ()) rfl rfl) (ea_one (ev_op vl_ixL (ev_frz (eo_lst (eal_cons ev_int (eal_cons ev_int eal_nil)))) (ev_cb vl_intB (ea_one (ev_var (rBool.mono ((((s9.trans s38).trans s63).trans s68).trans s77) rsmall) rfl))))))) eal_nil)))) (ev_op vl_div (ev_callS vtape (emb_l emb_id) (ea_cons (ev_var (R := rV vtape) (x := ()) rfl rfl) (ea_one ev_int))) ev_int)) fun v123 x124 F125 s126 r127 => b_σ (σ' := [some vtape, some vmost, some vsmall, some v6, some v35, some v60, some v66, some v74, some v123]) rfl (b_app rfl (emb_r emb_id) (ev_tup (by decide) (ea_cons (ev_callS vtape (emb_l emb_id) (ea_cons (ev_var (R := rV vtape) (x := ()) rfl rfl) (ea_one (ev_var (rInt.mono ((((s38.trans s63).trans s68).trans s77).trans s126) r10) rfl)))) (ea_cons (ev_var r127 rfl) (ea_one (ev_op vl_gt (ev_callS vtape (emb_l emb_id) (ea_cons (ev_var (R := rV vtape) (x := ()) rfl rfl) (ea_one ev_int))) ev_int))))) (b_nx pr_id (fun F140 s141 => ⟨_, _, rfl⟩)))))) (fun z144 F145 w146 s147 h148 => by obtain ⟨o149, o150, e151⟩ := h148; subst e151; exact b_ret (pr_l pr_id) (ev_tup (by decide) (ea_cons (ev_cb vl_tupleL (ea_one (ev_var (R := (rLst rVessel)) ((rLst rVessel).mono (s68.trans s147) r64) rfl))) (ea_one (ev_cbO vh_tuple rfl (emb_r emb_id)))))) (fun _ _ _ _ s ⟨a0, a1, e⟩ => ⟨a0, a1, e⟩)))))
/-! _law_first -/
abbrev s_law_first : Stmt := top 23
abbrev N_law_first : List Str := ["net", "none", "spout"]
theorem sc_law_first : FnScope N_law_first ["net"] (defScope s_law_first) := ⟨rfl, rfl, rfl, by decide +kernel, rfl, by decide +kernel, by decide +kernel⟩
def m_law_first (xnet : Net) : Option State := rn (bnd (bnd (bnd (bnd (ret (0 : Int)) fun a1 => bnd (ret []) fun b2 => ret (a1 :: b2)) fun a3 => lft (few a3)) fun a6 => bnd (bnd (bnd (ret xnet) fun a4 => ret a4.1) fun a5 => lft (some (a5.length : Int))) fun b7 => lft (repT a6 b7)) fun x9 => bnd (bnd (ret x9) fun a28 => bnd (bnd (ret x9) fun a26 => bnd (bnd (bnd (bnd (ret xnet) fun a13 => ret a13.2) fun q23 => bnd (lft (chk q23)) fun q24 => mp (fun x15 => bnd (ret x15) fun a21 => ret a21.2.2) q24) fun a25 => lft (some a25)) fun b27 => ret (a26, b27)) fun b29 => ret (a28, b29)) fun x30 s => some (x30, ()))
abbrev sp_law_first : Sp := spP (arOne rNet) rState (fun x => m_law_first x)
theorem ok_law_first {f : Addr} {fd : FuncData} (F : Fun K "_law_first" "_law_first" s_law_first f fd) (T : Txt K mg) : FnOk P w K mg base CX0 1 f fd ["net"] sp_law_first := by
  refine F.ok sc_law_first (fun vs H Q E h => ?_) (fun cdv A outer s H vs Q E hr h => ?_)
  · obtain ⟨F, O, x, b, ⟨_, rfl, _⟩, _⟩ := h; rfl
  · obtain ⟨F, O, xnet, b, ⟨vnet, rfl, rnet⟩, W, hm, k⟩ := h
    replace rnet : rNet.r F vnet xnet := rnet
    replace hm : m_law_first xnet = some b := hm
    refine ⟨_, (pss_cons (ps_set (i := 1) sc_law_first.nd rfl (Or.inl rfl) (pe_op (kop_repT (K := K)) (pe_tup (pa_cons pe_int pa_nil)) (pe_callB (kc_len (K := K)) (by rfl) T.len (by decide +kernel) (pa_cons (pe_ix (kix_tup (K := K)) (pv 0) pe_int (fun _ _ => rfl)) pa_nil)))) (pss_cons (ps_ret (pe_tup (pa_cons (pv 1) (pa_cons (pv 1) (pa_cons (pe_callTy (kc_tuple (K := K)) (by rfl) T.tuple (by decide +kernel) (pa_cons (pe_lc (g := (gName 2)) (tt := tYes) (by rfl) sc_law_first.nd (kpi_tup (K := K) (pe_ix (kix_tup (K := K)) (pv 0) pe_int (fun _ _ => rfl))) (blkOk_by (N := N_law_first) (sc := defScope s_law_first) (own := [("spout", 2)]) (by decide +kernel)) (fun _ _ _ _ _ => (pg_name (i := 2) sc_law_first.nd rfl (by first | exact Or.inl rfl | exact Or.inr rfl))) (fun _ _ _ _ _ => pts_nil) (fun _ _ _ _ _ => (pe_ix (kix_tup (K := K)) (pv 2) pe_int (fun _ _ => rfl)))) pa_nil)) pa_nil))))) pss_nil)), ?_⟩
    refine ok_P W hm k ?_
    show B _ [some vnet, none, none] F emp _ _
    exact b_set (ev_op vl_repT (ev_tupl (eal_cons ev_int eal_nil)) (ev_cb vl_lenT (ea_one (ev_prj prj_0 (ev_var rnet rfl))))) fun v8 x9 F10 s11 r12 => b_σ (σ' := [some vnet, some v8, none]) rfl (b_ret pr_emp (ev_tup (by decide) (ea_cons (ev_var r12 rfl) (ea_cons (ev_var r12 rfl) (ea_one (ev_cb vl_tupleL (ea_one (ev_frz (eo_lcA (ei_tup (ev_prj (prj_s prj_1) (ev_var (rNet.mono s11 rnet) rfl))) (fun v14 x15 F16 s17 r18 => cb_all go_name (fun w19 k20 => by subst k20; exact wipe_s _ _ (by decide) (wipe_w _ _)) (fun w19 k20 => by subst k20; exact ev_σ (σ' := [some vnet, some v8, some v14]) rfl (ev_prj (prj_s (prj_s prj_1)) (ev_var r18 rfl)))))))))))))
/-! _law_filled -/
abbrev s_law_filled : Stmt := top 24
abbrev N_law_filled : List Str := ["net", "state", "poured", "has", "k"]
theorem sc_law_filled : FnScope N_law_filled ["net", "state", "poured"] (defScope s_law_filled) := ⟨rfl, rfl, rfl, by decide +kernel, rfl, by decide +kernel, by decide +kernel⟩
def m_law_filled (xnet : Net) (xstate : State) (xpoured : (List Int)) : Option (List Int) := rn (bnd (bnd (bnd (bnd (bnd (ret xnet) fun a1 => ret a1.1) fun a2 => lft (some (a2.length : Int))) fun a3 => lft (rng 0 a3)) fun q24 => bnd (lft (chk q24)) fun q25 => mp (fun x5 => bnd (bnd (bnd (bnd (ret xstate) fun a11 => ret a11.1) fun a12 => bnd (ret x5) fun b13 => lft (atI a12 b13)) fun a17 => bnd (bnd (bnd (ret xstate) fun a14 => ret a14.2.1) fun a15 => bnd (ret x5) fun b16 => lft (atI a15 b16)) fun b18 => lft (some (a17 + b18))) fun a21 => bnd (bnd (ret xpoured) fun a19 => bnd (ret x5) fun b20 => lft (atI a19 b20)) fun b22 => lft (some (a21 + b22))) q25) (nw (bnd (bnd (bnd (bnd (ret xnet) fun a29 => ret a29.2) fun a30 => lft (some (a30.length : Int))) fun a31 => lft (rng 0 a31)) fun q94 => bnd (fd (fun z34 x35 => bnd (bnd (bnd (bnd (ret xstate) fun a44 => ret a44.2.2) fun a45 => bnd (ret x35) fun b46 => lft (atI a45 b46)) fun b47 => bif b47 then (bnd (bnd (bnd (bnd (bnd (bnd (ret xnet) fun a48 => ret a48.2) fun a49 => bnd (ret x35) fun b50 => lft (atI a49 b50)) fun a51 => ret a51.1) fun a52 => gtL (fun s => s.2) fun b53 => atI b53 a52) fun a58 => bnd (bnd (bnd (bnd (ret xnet) fun a54 => ret a54.2) fun a55 => bnd (ret x35) fun b56 => lft (atI a55 b56)) fun a57 => ret a57.2.1) fun b59 => lft (some (a58 + b59))) fun a66 => bnd (bnd (bnd (bnd (ret xnet) fun a60 => ret a60.2) fun a61 => bnd (ret x35) fun b62 => lft (atI a61 b62)) fun a63 => ret a63.1) fun b67 => bnd (upL (fun s => s.2) (fun s t => (s.1, t)) fun c68 => setI c68 b67 a66) fun _ => fun s => some ((), s)) else (fun s => some ((), s))) fun z71 => fun s => some ((), s)) () q94) fun z80 => fzL (fun s => s.2) (fun s => s.1) fun x87 => bnd (ret x87) fun x91 s => some (x91, ()))))
abbrev sp_law_filled : Sp := spP (arC rNet (arC rState (arOne (rTup rInt)))) (rLst rInt) (fun x => m_law_filled x.1 x.2.1 x.2.2)
theorem ok_law_filled {f : Addr} {fd : FuncData} (F : Fun K "_law_filled" "_law_filled" s_law_filled f fd) (T : Txt K mg) : FnOk P w K mg base CX0 1 f fd ["net", "state", "poured"] sp_law_filled := by
  refine F.ok sc_law_filled (fun vs H Q E h => ?_) (fun cdv A outer s H vs Q E hr h => ?_)
  · obtain ⟨F, O, x, b, ⟨_, _, rfl, _, ⟨_, _, rfl, _, ⟨_, rfl, _⟩⟩⟩, _⟩ := h; rfl
  · obtain ⟨F, O, ⟨xnet, xstate, xpoured⟩, b, ⟨vnet, _, rfl, rnet, ⟨vstate, _, rfl, rstate, ⟨vpoured, rfl, rpoured⟩⟩⟩, W, hm, k⟩ := h
    replace rnet : rNet.r F vnet xnet := rnet
    replace rstate : rState.r F vstate xstate := rstate
    replace rpoured : (rTup rInt).r F vpoured xpoured := rpoured
    replace hm : m_law_filled xnet xstate xpoured = some b := hm
    refine ⟨_, (pss_cons (ps_setLc (i := 3) (g := (gName 4)) (tt := tYes) (by rfl) sc_law_filled.nd rfl rfl (sw_true rfl rfl rfl (by decide +kernel)) (pi_range1 (by rfl) T.range (pa_cons (pe_callB (kc_len (K := K)) (by rfl) T.len (by decide +kernel) (pa_cons (pe_ix (kix_tup (K := K)) (pv 0) pe_int (fun _ _ => rfl)) pa_nil)) pa_nil)) (blkOk_by (N := N_law_filled) (sc := defScope s_law_filled) (own := [("k", 4)]) (by decide +kernel)) (fun _ _ _ _ _ => (pg_name (i := 4) sc_law_filled.nd rfl (by first | exact Or.inl rfl | exact Or.inr rfl))) (fun _ _ _ _ _ => pts_nil) (fun _ _ _ _ _ => (pe_op op_add (pe_op op_add (pe_ix (kix_tup (K := K)) (pe_ix (kix_tup (K := K)) (pv 1) pe_int (fun _ _ => rfl)) (pv 4) (fun _ _ => rfl)) (pe_ix (kix_tup (K := K)) (pe_ix (kix_tup (K := K)) (pv 1) pe_int (fun _ _ => rfl)) (pv 4) (fun _ _ => rfl))) (pe_ix (kix_tup (K := K)) (pv 2) (pv 4) (fun _ _ => rfl))))) (pss_cons (ps_for PassesOwn.never (by rfl) (pi_range1 (by rfl) T.range (pa_cons (pe_callB (kc_len (K := K)) (by rfl) T.len (by decide +kernel) (pa_cons (pe_ix (kix_tup (K := K)) (pv 0) pe_int (fun _ _ => rfl)) pa_nil)) pa_nil)) (pg_name (i := 4) sc_law_filled.nd rfl (by first | exact Or.inl rfl | exact Or.inr rfl)) (Evl.pss_cut (ps_if (pt_val (pe_ix (kix_tup (K := K)) (pe_ix (kix_tup (K := K)) (pv 1) pe_int (fun _ _ => rfl)) (pv 4) (fun _ _ => rfl))) (pss_cons (ps_asg (pe_op op_add (pe_ix (kix_list (K := K)) (pv 3) (pe_ix (kix_tup (K := K)) (pe_ix (kix_tup (K := K)) (pe_ix (kix_tup (K := K)) (pv 0) pe_int (fun _ _ => rfl)) (pv 4) (fun _ _ => rfl)) pe_int (fun _ _ => rfl)) (fun _ _ => rfl)) (pe_ix (kix_tup (K := K)) (pe_ix (kix_tup (K := K)) (pe_ix (kix_tup (K := K)) (pv 0) pe_int (fun _ _ => rfl)) (pv 4) (fun _ _ => rfl)) pe_int (fun _ _ => rfl))) (pg_sub (pv 3) (pe_ix (kix_tup (K := K)) (pe_ix (kix_tup (K := K)) (pe_ix (kix_tup (K := K)) (pv 0) pe_int (fun _ _ => rfl)) (pv 4) (fun _ _ => rfl)) pe_int (fun _ _ => rfl)) set_list)) pss_nil) pss_nil) pss_nil)) (pss_cons (ps_ret (pv 3)) pss_nil))), ?_⟩
    refine ok_P W hm k ?_
    show B _ [some vnet, some vstate, some vpoured, none, none] F emp _ _
    exact b_new (eo_lcA (ei_rng1 (ev_cb vl_lenT (ea_one (ev_prj prj_0 (ev_var rnet rfl))))) (fun v4 x5 F6 s7 r8 => cb_all go_name (fun w9 k10 => by subst k10; exact wipe_s _ _ (by decide) (wipe_w _ _)) (fun w9 k10 => by subst k10; exact ev_σ (σ' := [some vnet, some vstate, some vpoured, none, some v4]) rfl (ev_op vl_add (ev_op vl_add (ev_op vl_ixT (ev_prj prj_0 (ev_var (rState.mono s7 rstate) rfl)) (ev_var r8 rfl)) (ev_op vl_ixT (ev_prj (prj_s prj_0) (ev_var (rState.mono s7 rstate) rfl)) (ev_var r8 rfl))) (ev_op vl_ixT (ev_var ((rTup rInt).mono s7 rpoured) rfl) (ev_var r8 rfl)))))) fun v26 F27 s28 => b_σ (σ' := [some vnet, some vstate, some vpoured, some v26, none]) rfl (b_for (z0 := ()) (Sl := (fun (z : Unit) (F : Hp) (σ : L2.St) => ∃ (u1 : Option V), σ = [some vnet, some vstate, some vpoured, some v26, u1])) (ei_rng1 (ev_cb vl_lenT (ea_one (ev_prj (prj_s prj_1) (ev_var (rNet.mono s28 rnet) rfl))))) (fun F92 s93 => ⟨_, rfl⟩) (fun z34 x35 v36 F37 w38 s39 h40 r41 => by obtain ⟨o42, e43⟩ := h40; subst e43; exact b_go go_name (fun _ k => by subst k; exact b_σ (σ' := [some vnet, some vstate, some vpoured, some v26, some v36]) rfl (b_ifJ (Sl := (fun (z : Unit) (F : Hp) (σ : L2.St) => σ = [some vnet, some vstate, some vpoured, some v26, some v36])) (et_B (ev_op vl_ixT (ev_prj (prj_s (prj_s prj_1)) (ev_var (rState.mono (s28.trans s39) rstate) rfl)) (ev_var r41 rfl))) (b_setL rfl (emb_r emb_id) (ev_op vl_add (ev_ixO rfl (emb_r emb_id) (ev_prj prj_0 (ev_op vl_ixT (ev_prj (prj_s prj_1) (ev_var (rNet.mono (s28.trans s39) rnet) rfl)) (ev_var r41 rfl)))) (ev_prj (prj_s prj_0) (ev_op vl_ixT (ev_prj (prj_s prj_1) (ev_var (rNet.mono (s28.trans s39) rnet) rfl)) (ev_var r41 rfl)))) (ev_prj prj_0 (ev_op vl_ixT (ev_prj (prj_s prj_1) (ev_var (rNet.mono (s28.trans s39) rnet) rfl)) (ev_var r41 rfl))) (b_nx pr_id (fun F64 s65 => rfl))) (b_nx pr_id (fun F69 s70 => rfl)) (fun z71 F72 w73 s74 h75 => by subst h75; exact b_nx pr_id (fun F78 s79 => ⟨_, rfl⟩))))) (fun z80 F81 w82 s83 h84 => by obtain ⟨o85, e86⟩ := h84; subst e86; exact b_fzL rm_r fun x87 F88 s89 r90 => b_ret pr_emp (ev_var r90 rfl)) (fun _ _ _ _ s ⟨a0, e⟩ => ⟨a0, e⟩))
/-! _law_tick -/
abbrev s_law_tick : Stmt := top 25
abbrev N_law_tick : List Str := ["net", "state", "poured", "fast", "has", "goes", "tipped", "stays", "number", "size", "brim", "outs", "holds", "spill", "acts", "here", "whole", "doors", "word", "spout", "later", "ground", "k", "target", "amount", "parts"]
theorem sc_law_tick : FnScope N_law_tick ["net", "state", "poured", "fast"] (defScope s_law_tick) := ⟨rfl, rfl, rfl, by decide +kernel, rfl, by decide +kernel, by decide +kernel⟩
def m_law_tick (xnet : Net) (xstate : State) (xpoured : (List Int)) (xfast : (Option Int)) : Option (State × (List Int) × Int) := rn (bnd (bnd (bnd (ret xnet) fun a3 => bnd (bnd (ret xstate) fun a1 => bnd (ret xpoured) fun b2 => ret (a1, b2)) fun b4 => ret (a3, b4)) fun a5 => lft (m_law_filled a5.1 a5.2.1 a5.2.2)) fun x7 => bnd (bnd (ret ([] : List ((Option Int) × Int))) fun a11 => lft (few a11)) (nw (bnd (bnd (ret ([] : List Int)) fun a15 => lft (few a15)) (nw (bnd (bnd (ret ([] : List Int)) fun a19 => lft (few a19)) (nw (bnd (bnd (bnd (bnd (ret xnet) fun a23 => ret a23.1) fun a24 => lft (some (a24.length : Int))) fun a25 => lft (rng 0 a25)) fun q415 => bnd (fd (fun z28 x29 => bnd (bnd (bnd (ret xnet) fun a46 => ret a46.1) fun a47 => bnd (ret x29) fun b48 => lft (atI a47 b48)) fun x50 => bnd (bnd (bnd (bnd (ret x7) fun a76 => bnd (ret x29) fun b77 => lft (atI a76 b77)) fun a78 => bnd (ret x50.2.1) fun b79 => ret (a78, b79)) fun a80 => lft (some (if a80.2 < a80.1 then a80.2 else a80.1))) fun x82 => bnd (bnd (ret x50.2.2.2.2.1) fun a90 => bnd (bnd (bnd (ret x7) fun a86 => bnd (ret x29) fun b87 => lft (atI a86 b87)) fun a88 => bnd (ret x82) fun b89 => lft (some (a88 - b89))) fun b91 => ret (a90, b91)) fun a221 => bnd (upL (fun s => s.1.1.2) (fun s t => (((s.1.1.1, t), s.1.2), s.2)) fun b222 => app b222 a221) fun _ => bnd (bnd (bnd (bnd (ret x82) fun a92 => bnd (ret x50.1) fun b93 => lft (some (decide (b93 ≤ a92)))) fun b96 => bif b96 then (bnd (ret x29) fun a94 => bnd (ret xfast) fun b95 => lft (some (!decide (some a94 = b95)))) else ret false) fun b97 => bif b97 then (bnd (bnd (bnd (ret x50.2.2.1) fun q111 => bnd (lft (chk q111)) fun q112 => mp (fun x99 => ret x99.2) q112) fun a113 => lft (some a113.sum)) fun x115 => bnd (bnd (bnd (ret x50.2.2.1) fun q159 => bnd (lft (chk q159)) fun q160 => mp (fun x141 => bnd (ret x141.1) fun a156 => bnd (bnd (bnd (ret x82) fun a152 => bnd (ret x115) fun b153 => lft (divI a152 b153)) fun a154 => bnd (ret x141.2) fun b155 => lft (mulI a154 b155)) fun b157 => ret (a156, b157)) q160) fun a161 => gtL (fun s => s.1.1.2) fun b162 => catL b162 a161) (rb (fun s t => (((s.1.1.1, t), s.1.2), s.2)) (bnd (bnd (ret x82) fun a169 => bnd (ret x115) fun b170 => lft (modI a169 b170)) fun x172 => bnd (ret x29) fun a202 => bnd (upL (fun s => s.1.2) (fun s t => ((s.1.1, t), s.2)) fun b203 => app b203 a202) fun _ => bnd (bnd (bnd (ret x50.2.2.2.1) fun b176 => ret (!b176)) fun b177 => bif b177 then (bnd (bnd (ret (none : (Option Int))) fun a178 => bnd (ret x172) fun b179 => ret (a178, b179)) fun a187 => bnd (upL (fun s => s.1.1.2) (fun s t => (((s.1.1.1, t), s.1.2), s.2)) fun b188 => app b188 a187) fun _ => bnd (ret (0 : Int)) fun x181 => fun s => some (x181, s)) else (fun s => some (x172, s))) fun z191 => fun s => some (z191, s)))) else (fun s => some (x82, s))) fun z206 => bnd (ret z206) fun a218 => bnd (upL (fun s => s.2) (fun s t => (s.1, t)) fun b219 => app b219 a218) fun _ => fun s => some ((), s)) () q415) fun z223 => fzL (fun s => s.1.1.2) (fun s => ((s.1.1.1, s.1.2), s.2)) fun x238 => fzL (fun s => s.1.2) (fun s => (s.1.1, s.2)) fun x242 => bnd (bnd (bnd (ret xstate) fun a246 => ret a246.2.2) fun a247 => lft (some a247)) (nw (bnd (ret x242) fun q412 => bnd (fd (fun z253 x254 => bnd (bnd (bnd (bnd (ret xnet) fun a265 => ret a265.1) fun a266 => bnd (ret x254) fun b267 => lft (atI a266 b267)) fun a268 => ret a268.2.2.2.2.2) fun q328 => bnd (fd (fun z271 x272 => bnd (bnd (bnd (bnd (bnd (bnd (ret x272.2) fun a290 => gtL (fun s => s.2) fun b291 => atI b291 a290) fun b292 => ret (!b292)) fun a297 => bnd (bnd (ret true) fun a295 => bnd (bnd (ret false) fun a293 => bnd (ret []) fun b294 => ret (a293 :: b294)) fun b296 => ret (a295 :: b296)) fun b298 => ret (a297 :: b298)) fun a299 => lft (few a299)) fun a309 => bnd (bnd (bnd (bnd (ret ("turn" : Str)) fun a304 => bnd (bnd (ret ("open" : Str)) fun a302 => bnd (bnd (ret ("shut" : Str)) fun a300 => bnd (ret []) fun b301 => ret (a300 :: b301)) fun b303 => ret (a302 :: b303)) fun b305 => ret (a304 :: b305)) fun a306 => lft (few a306)) fun a307 => bnd (ret x272.1) fun b308 => lft (idxO a307 b308)) fun b310 => lft (atI a309 b310)) fun a313 => bnd (ret x272.2) fun b314 => bnd (upL (fun s => s.2) (fun s t => (s.1, t)) fun c315 => setI c315 b314 a313) fun _ => fun s => some ((), s)) () q328) fun z316 => fun s => some ((), s)) () q412) fun z329 => bnd (bnd (bnd (bnd (bnd (ret xnet) fun a338 => ret a338.1) fun a339 => lft (some (a339.length : Int))) fun a340 => lft (rng 0 a340)) fun q367 => bnd (lft (chk q367)) fun q368 => mp (fun x342 => bnd (bnd (ret x238) fun q363 => bnd (lft (chk q363)) fun q364 => mpf (fun x349 => bnd (ret x349.1) fun a360 => bnd (ret x342) fun b361 => lft (some (decide (a360 = some b361)))) (fun x349 => ret x349.2) q364) fun a365 => lft (some a365.sum)) q368) fun x370 => bnd (bnd (bnd (ret x238) fun q389 => bnd (lft (chk q389)) fun q390 => mpf (fun x375 => bnd (ret x375.1) fun a386 => bnd (ret ()) fun b387 => lft (some a386.isNone)) (fun x375 => ret x375.2) q390) fun a391 => lft (some a391.sum)) fun x393 => bnd (bnd (bnd (gtL (fun s => s.1.2) fun a397 => some a397) fun a402 => bnd (bnd (bnd (ret x370) fun a398 => lft (some a398)) fun a400 => bnd (gtL (fun s => s.2) fun a399 => some a399) fun b401 => ret (a400, b401)) fun b403 => ret (a402, b403)) fun a407 => bnd (bnd (bnd (ret x242) fun a404 => lft (some a404)) fun a405 => bnd (ret x393) fun b406 => ret (a405, b406)) fun b408 => ret (a407, b408)) fun x409 s => some (x409, ()))))))))))
abbrev sp_law_tick : Sp := spP (arC rNet (arC rState (arC (rTup rInt) (arOne (rOpt rInt))))) (rLh (arC rState (arC (rTup rInt) (arOne rInt)))) (fun x => m_law_tick x.1 x.2.1 x.2.2.1 x.2.2.2)
theorem ok_law_tick {f : Addr} {fd : FuncData} (F : Fun K "_law_tick" "_law_tick" s_law_tick f fd) (T : Txt K mg) (c_law_filled : Kn P w K mg base CX0 1 "_law_filled" ["net", "state", "poured"] sp_law_filled) : FnOk P w K mg base CX0 2 f fd ["net", "state", "poured", "fast"] sp_law_tick := by
  refine F.ok sc_law_tick (fun vs H Q E h => ?_) (fun cdv A outer s H vs Q E hr h => ?_)
  · obtain ⟨F, O, x, b, ⟨_, _, rfl, _, ⟨_, _, rfl, _, ⟨_, _, rfl, _, ⟨_, rfl, _⟩⟩⟩⟩, _⟩ := h; rfl
  · obtain ⟨F, O, ⟨xnet, xstate, xpoured, xfast⟩, b, ⟨vnet, _, rfl, rnet, ⟨vstate, _, rfl, rstate, ⟨vpoured, _, rfl, rpoured, ⟨vfast, rfl, rfast⟩⟩⟩⟩, W, hm, k⟩ := h
    replace rnet : rNet.r F vnet xnet := rnet
    replace rstate : rState.r F vstate xstate := rstate
    replace rpoured : (rTup rInt).r F vpoured xpoured := rpoured
    replace rfast : (rOpt rInt).r F vfast xfast := rfast
    replace hm : m_law_tick xnet xstate xpoured xfast = some b := hm
    refine ⟨_, (pss_cons (ps_set (i := 4) sc_law_tick.nd rfl (Or.inl rfl) (pe_kn c_law_filled hr (by decide) (by rfl) (pa_cons (pv 0) (pa_cons (pv 1) (pa_cons (pv 2) pa_nil))))) (pss_cons (ps_set (i := 5) sc_law_tick.nd rfl (Or.inr rfl) (pe_lst pa_nil)) (pss_cons (ps_set (i := 6) sc_law_tick.nd rfl (Or.inl rfl) (pe_lst pa_nil)) (pss_cons (ps_set (i := 7) sc_law_tick.nd rfl (Or.inl rfl) (pe_lst pa_nil)) (pss_cons (ps_for PassesOwn.never (by rfl) (pi_range1 (by rfl) T.range (pa_cons (pe_callB (kc_len (K := K)) (by rfl) T.len (by decide +kernel) (pa_cons (pe_ix (kix_tup (K := K)) (pv 0) pe_int (fun _ _ => rfl)) pa_nil)) pa_nil)) (pg_name (i := 8) sc_law_tick.nd rfl (by first | exact Or.inl rfl | exact Or.inr rfl)) (pss_cons (ps_asg (pe_ix (kix_tup (K := K)) (pe_ix (kix_tup (K := K)) (pv 0) pe_int (fun _ _ => rfl)) (pv 8) (fun _ _ => rfl)) (kpg_tup (K := K) (by rfl) (pgs_cons (pg_name (i := 9) sc_law_tick.nd rfl (by first | exact Or.inl rfl | exact Or.inr rfl)) (pgs_cons (pg_name (i := 10) sc_law_tick.nd rfl (by first | exact Or.inl rfl | exact Or.inr rfl)) (pgs_cons (pg_name (i := 11) sc_law_tick.nd rfl (by first | exact Or.inl rfl | exact Or.inr rfl)) (pgs_cons (pg_name (i := 12) sc_law_tick.nd rfl (by first | exact Or.inl rfl | exact Or.inr rfl)) (pgs_cons (pg_name (i := 13) sc_law_tick.nd rfl (by first | exact Or.inl rfl | exact Or.inr rfl)) (pgs_cons (pg_name (i := 14) sc_law_tick.nd rfl (by first | exact Or.inl rfl | exact Or.inr rfl)) pgs_nil)))))))) (pss_cons (ps_set (i := 15) sc_law_tick.nd rfl (Or.inr rfl) (pe_callB (call_min2 (by rfl)) (by rfl) T.min (by decide +kernel) (pa_cons (pe_ix (kix_list (K := K)) (pv 4) (pv 8) (fun _ _ => rfl)) (pa_cons (pv 10) pa_nil)))) (pss_cons (ps_expr (kpe_bm (K := K) PySem.F.plainAttrs_list PySem.F.slot_list_append PySem.F.type_list_append mt_append (pv 5) (pa_cons (pe_tup (pa_cons (pv 13) (pa_cons (pe_op op_sub (pe_ix (kix_list (K := K)) (pv 4) (pv 8) (fun _ _ => rfl)) (pv 15)) pa_nil))) pa_nil))) (Evl.pss_cut (ps_if (PW.pt (pw_and (pt_cmpR op_ge (pv 15) (pv 9) (nomark _)) (pw_and1 (pt_cmpR op_ne (pv 8) (pv 3) (nomark _))))) (pss_cons (ps_set (i := 16) sc_law_tick.nd rfl (Or.inr rfl) (pe_callB (kc_sum (K := K) (by rfl)) (by rfl) T.sum (by decide +kernel) (pa_cons (pe_lc (g := (gTup K 2 (gCons (gName 23) (gCons (gName 25) gNil)))) (tt := tYes) (by rfl) sc_law_tick.nd (kpi_tup (K := K) (pv 11)) (blkOk_by (N := N_law_tick) (sc := defScope s_law_tick) (own := [("target", 23), ("parts", 25)]) (by decide +kernel)) (fun _ _ _ _ _ => (kpg_tup (K := K) (by rfl) (pgs_cons (pg_name (i := 23) sc_law_tick.nd rfl (by first | exact Or.inl rfl | exact Or.inr rfl)) (pgs_cons (pg_name (i := 25) sc_law_tick.nd rfl (by first | exact Or.inl rfl | exact Or.inr rfl)) pgs_nil)))) (fun _ _ _ _ _ => pts_nil) (fun _ _ _ _ _ => (pv 25))) pa_nil))) (pss_cons (ps_set (i := 5) sc_law_tick.nd rfl (Or.inr rfl) (pe_op op_cat (pv 5) (pe_lc (g := (gTup K 2 (gCons (gName 23) (gCons (gName 25) gNil)))) (tt := tYes) (by rfl) sc_law_tick.nd (kpi_tup (K := K) (pv 11)) (blkOk_by (N := N_law_tick) (sc := defScope s_law_tick) (own := [("target", 23), ("parts", 25)]) (by decide +kernel)) (fun _ _ _ _ _ => (kpg_tup (K := K) (by rfl) (pgs_cons (pg_name (i := 23) sc_law_tick.nd rfl (by first | exact Or.inl rfl | exact Or.inr rfl)) (pgs_cons (pg_name (i := 25) sc_law_tick.nd rfl (by first | exact Or.inl rfl | exact Or.inr rfl)) pgs_nil)))) (fun _ _ _ _ _ => pts_nil) (fun _ _ _ _ _ => (pe_tup (pa_cons (pv 23) (pa_cons (pe_op op_mul (pe_op op_fdivW (pv 15) (pv 16)) (pv 25)) pa_nil))))))) (pss_cons (ps_set (i := 15) sc_law_tick.nd rfl (Or.inr rfl) (pe_op op_mod (pv 15) (pv 16))) (pss_cons (ps_expr (kpe_bm (K := K) PySem.F.plainAttrs_list PySem.F.slot_list_append PySem.F.type_list_append mt_append (pv 6) (pa_cons (pv 8) pa_nil))) (Evl.pss_cut (ps_if (pt_not (pt_val (pv 12))) (pss_cons (ps_expr (kpe_bm (K := K) PySem.F.plainAttrs_list PySem.F.slot_list_append PySem.F.type_list_append mt_append (pv 5) (pa_cons (pe_tup (pa_cons pe_non (pa_cons (pv 15) pa_nil))) pa_nil))) (pss_cons (ps_set (i := 15) sc_law_tick.nd rfl (Or.inr rfl) pe_int) pss_nil)) pss_nil) pss_nil))))) pss_nil) (pss_cons (ps_expr (kpe_bm (K := K) PySem.F.plainAttrs_list PySem.F.slot_list_append PySem.F.type_list_append mt_append (pv 7) (pa_cons (pv 15) pa_nil))) pss_nil)))))) (pss_cons (ps_set (i := 17) sc_law_tick.nd rfl (Or.inl rfl) (pe_callTy (kc_list (K := K)) (by rfl) T.list (by decide +kernel) (pa_cons (pe_ix (kix_tup (K := K)) (pv 1) pe_int (fun _ _ => rfl)) pa_nil))) (pss_cons (ps_for PassesOwn.never (by rfl) (kpi_list (K := K) (pv 6)) (pg_name (i := 8) sc_law_tick.nd rfl (by first | exact Or.inl rfl | exact Or.inr rfl)) (pss_cons (ps_for PassesOwn.never (by rfl) (kpi_tup (K := K) (pe_ix (kix_tup (K := K)) (pe_ix (kix_tup (K := K)) (pe_ix (kix_tup (K := K)) (pv 0) pe_int (fun _ _ => rfl)) (pv 8) (fun _ _ => rfl)) pe_int (fun _ _ => rfl))) (kpg_tup (K := K) (by rfl) (pgs_cons (pg_name (i := 18) sc_law_tick.nd rfl (by first | exact Or.inl rfl | exact Or.inr rfl)) (pgs_cons (pg_name (i := 19) sc_law_tick.nd rfl (by first | exact Or.inl rfl | exact Or.inr rfl)) pgs_nil))) (pss_cons (ps_asg (pe_ix (kix_list (K := K)) (pe_lst (pa_cons (pe_not (pe_ix (kix_list (K := K)) (pv 17) (pv 19) (fun _ _ => rfl))) (pa_cons pe_bl (pa_cons pe_bl pa_nil)))) (kpe_bmR (K := K) PySem.F.plainAttrs_list PySem.F.slot_list_index PySem.F.type_list_index mt_indexM (pe_lst (pa_cons pe_str (pa_cons pe_str (pa_cons pe_str pa_nil)))) (pa_cons (pv 18) pa_nil)) (fun _ _ => rfl)) (pg_sub (pv 17) (pv 19) set_list)) pss_nil)) pss_nil)) (pss_cons (ps_setLc (i := 20) (g := (gName 22)) (tt := tYes) (by rfl) sc_law_tick.nd rfl rfl (sw_true rfl rfl rfl (by decide +kernel)) (pi_range1 (by rfl) T.range (pa_cons (pe_callB (kc_len (K := K)) (by rfl) T.len (by decide +kernel) (pa_cons (pe_ix (kix_tup (K := K)) (pv 0) pe_int (fun _ _ => rfl)) pa_nil)) pa_nil)) (blkOk_by (N := N_law_tick) (sc := defScope s_law_tick) (own := [("k", 22)]) (by decide +kernel)) (fun _ _ _ _ _ => (pg_name (i := 22) sc_law_tick.nd rfl (by first | exact Or.inl rfl | exact Or.inr rfl))) (fun _ _ _ _ _ => pts_nil) (fun _ _ _ _ _ => (pe_callB (kc_sum (K := K) (by rfl)) (by rfl) T.sum (by decide +kernel) (pa_cons (pe_lc (g := (gTup K 2 (gCons (gName 23) (gCons (gName 24) gNil)))) (by rfl) sc_law_tick.nd (kpi_list (K := K) (pv 5)) (blkOk_by (N := N_law_tick) (sc := relS _ (defScope s_law_tick)) (own := [("target", 23), ("amount", 24)]) (by decide +kernel)) (fun _ _ _ _ _ => (kpg_tup (K := K) (by rfl) (pgs_cons (pg_name (i := 23) sc_law_tick.nd rfl (by first | exact Or.inl rfl | exact Or.inr rfl)) (pgs_cons (pg_name (i := 24) sc_law_tick.nd rfl (by first | exact Or.inl rfl | exact Or.inr rfl)) pgs_nil)))) (fun _ _ _ _ _ => pts_one (pt_cmpR op_eq (pv 23) (pv 22) (nomark _))) (fun _ _ _ _ _ => (pv 24))) pa_nil)))) (pss_cons (ps_set (i := 21) sc_law_tick.nd rfl (Or.inl rfl) (pe_callB (kc_sum (K := K) (by rfl)) (by rfl) T.sum (by decide +kernel) (pa_cons (pe_lc (g := (gTup K 2 (gCons (gName 23) (gCons (gName 24) gNil)))) (by rfl) sc_law_tick.nd (kpi_list (K := K) (pv 5)) (blkOk_by (N := N_law_tick) (sc := defScope s_law_tick) (own := [("target", 23), ("amount", 24)]) (by decide +kernel)) (fun _ _ _ _ _ => (kpg_tup (K := K) (by rfl) (pgs_cons (pg_name (i := 23) sc_law_tick.nd rfl (by first | exact Or.inl rfl | exact Or.inr rfl)) (pgs_cons (pg_name (i := 24) sc_law_tick.nd rfl (by first | exact Or.inl rfl | exact Or.inr rfl)) pgs_nil)))) (fun _ _ _ _ _ => pts_one (pt_cmpR op_isN (pv 23) pe_non (nomark _))) (fun _ _ _ _ _ => (pv 24))) pa_nil))) (pss_cons (ps_ret (pe_lst (pa_cons (pe_tup (pa_cons (pe_callTy (kc_tuple (K := K)) (by rfl) T.tuple (by decide +kernel) (pa_cons (pv 7) pa_nil)) (pa_cons (pe_callTy (kc_tuple (K := K)) (by rfl) T.tuple (by decide +kernel) (pa_cons (pv 20) pa_nil)) (pa_cons (pe_callTy (kc_tuple (K := K)) (by rfl) T.tuple (by decide +kernel) (pa_cons (pv 17) pa_nil)) pa_nil)))) (pa_cons (pe_callTy (kc_tuple (K := K)) (by rfl) T.tuple (by decide +kernel) (pa_cons (pv 6) pa_nil)) (pa_cons (pv 21) pa_nil))))) pss_nil)))))))))), ?_⟩
    refine ok_P W hm k ?_
    show B _ [some vnet, some vstate, some vpoured, some vfast, none, none, none, none, none, none, none, none, none, none, none, none, none, none, none, none, none, none, none, none, none, none] F emp _ _
    exact b_set (ev_callP (ea_cons (ev_var rnet rfl) (ea_cons (ev_var rstate rfl) (ea_one (ev_var rpoured rfl))))) fun v6 x7 F8 s9 r10 => b_σ (σ' := [some vnet, some vstate, some vpoured, some vfast, some v6, none, none, none, none, none, none, none, none, none, none, none, none, none, none, none, none, none, none, none, none, none]) rfl (b_new (eo_lst (eal_nil (R := (rTh (arC (rOpt rInt) (arOne rInt)))))) fun v12 F13 s14 => b_σ (σ' := [some vnet, some vstate, some vpoured, some vfast, some v6, some v12, none, none, none, none, none, none, none, none, none, none, none, none, none, none, none, none, none, none, none, none]) rfl (b_new (eo_lst (eal_nil (R := rInt))) fun v16 F17 s18 => b_σ (σ' := [some vnet, some vstate, some vpoured, some vfast, some v6, some v12, some v16, none, none, none, none, none, none, none, none, none, none, none, none, none, none, none, none, none, none, none]) rfl (b_new (eo_lst (eal_nil (R := rInt))) fun v20 F21 s22 => b_σ (σ' := [some vnet, some vstate, some vpoured, some vfast, some v6, some v12, some v16, some v20, none, none, none, none, none, none, none, none, none, none, none, none, none, none, none, none, none, none]) rfl (b_forI (A := (fun i => (star (star (star emp (oLst (rTh (arC (rOpt rInt) (arOne rInt))) i)) (oLst rInt v16)) (oLst rInt v20)))) v12 (z0 := ()) (Sl := (fun (z : Unit) (i : V) (F : Hp) (σ : L2.St) => ∃ (u1 : Option V) (u2 : Option V) (u3 : Option V) (u4 : Option V) (u5 : Option V) (u6 : Option V) (u7 : Option V) (u8 : Option V) (u9 : Option V), σ = [some vnet, some vstate, some vpoured, some vfast, some v6, some i, some v16, some v20, u1, u2, u3, u4, u5, u6, u7, u8, u9, none, none, none, none, none, none, none, none, none])) (ei_rng1 (ev_cb vl_lenT (ea_one (ev_prj prj_0 (ev_var (rNet.mono (((s9.trans s14).trans s18).trans s22) rnet) rfl))))) (fun F413 s414 => ⟨_, _, _, _, _, _, _, _, _, rfl⟩) (fun z28 i26 x29 v30 F31 w32 s33 h34 r35 => by obtain ⟨o36, o37, o38, o39, o40, o41, o42, o43, o44, e45⟩ := h34; subst e45; exact b_go go_name (fun _ k => by subst k; exact b_σ (σ' := [some vnet, some vstate, some vpoured, some vfast, some v6, some i26, some v16, some v20, some v30, o37, o38, o39, o40, o41, o42, o43, o44, none, none, none, none, none, none, none, none, none]) rfl (b_unp (ev_op vl_ixT (ev_prj prj_0 (ev_var (rNet.mono ((((s9.trans s14).trans s18).trans s22).trans s33) rnet) rfl)) (ev_var r35 rfl)) (fun _ _ _ _ r57 => go_t6 r57) fun v49 x50 F51 w54 s52 r53 ⟨v63, v64, v65, v66, v67, v68, r69, r70, r71, r72, r73, r74, e75⟩ => by subst e75; exact b_σ (σ' := [some vnet, some vstate, some vpoured, some vfast, some v6, some i26, some v16, some v20, some v30, some v63, some v64, some v65, some v66, some v67, some v68, o43, o44, none, none, none, none, none, none, none, none, none]) rfl (b_set (ev_cb vl_min2 (ea_cons (ev_op vl_ixL (ev_var ((rLst rInt).mono ((((s14.trans s18).trans s22).trans s33).trans s52) r10) rfl) (ev_var (rInt.mono s52 r35) rfl)) (ea_one (ev_var r70 rfl)))) fun v81 x82 F83 s84 r85 => b_σ (σ' := [some vnet, some vstate, some vpoured, some vfast, some v6, some i26, some v16, some v20, some v30, some v63, some v64, some v65, some v66, some v67, some v68, some v81, o44, none, none, none, none, none, none, none, none, none]) rfl (b_app rfl (emb_l (emb_l (emb_r emb_id))) (ev_tup (by decide) (ea_cons (ev_var ((rOpt rInt).mono s84 r73) rfl) (ea_one (ev_op vl_sub (ev_op vl_ixL (ev_var ((rLst rInt).mono (((((s14.trans s18).trans s22).trans s33).trans s52).trans s84) r10) rfl) (ev_var (rInt.mono (s52.trans s84) r35) rfl)) (ev_var r85 rfl))))) (b_ifJI (A := (fun i => (star (star (star emp (oLst (rTh (arC (rOpt rInt) (arOne rInt))) i)) (oLst rInt v16)) (oLst rInt v20)))) (Sl := (fun (z : Int) (i : V) (F : Hp) (σ : L2.St) => ∃ (u1 : V) (u2 : Option V), σ = [some vnet, some vstate, some vpoured, some vfast, some v6, some i, some v16, some v20, some v30, some v63, some v64, some v65, some v66, some v67, some v68, some u1, u2, none, none, none, none, none, none, none, none, none] ∧ rInt.r F u1 z)) (et_and (et_test (ev_op vl_ge (ev_var r85 rfl) (ev_var (rInt.mono s84 r69) rfl))) (et_test (ev_op vl_neIO (ev_var (rInt.mono (s52.trans s84) r35) rfl) (ev_var ((rOpt rInt).mono ((((((s9.trans s14).trans s18).trans s22).trans s33).trans s52).trans s84) rfast) rfl)))) (b_set (ev_cb vl_sumL (ea_one (ev_frz (eo_lcA (ei_tup (ev_var ((rTup rOut).mono s84 r71) rfl)) (fun v98 x99 F100 s101 r102 => cb_all (go_t2 r102) (fun w103 ⟨v105, v106, r107, r108, e109⟩ => by subst e109; exact wipe_s _ _ (by decide) (wipe_s _ _ (by decide) (wipe_w _ _))) (fun w103 ⟨v105, v106, r107, r108, e109⟩ => by subst e109; exact ev_σ (σ' := [some vnet, some vstate, some vpoured, some vfast, some v6, some i26, some v16, some v20, some v30, some v63, some v64, some v65, some v66, some v67, some v68, some v81, o44, none, none, none, none, none, none, some v105, none, some v106]) rfl (ev_var r108 rfl))))))) fun v114 x115 F116 s117 r118 => b_σ (σ' := [some vnet, some vstate, some vpoured, some vfast, some v6, some i26, some v16, some v20, some v30, some v63, some v64, some v65, some v66, some v67, some v68, some v81, some v114, none, none, none, none, none, none, none, none, none]) rfl (b_rb (A' := fun v => (star (star (star emp (oLst (rTh (arC (rOpt rInt) (arOne rInt))) v)) (oLst rInt v16)) (oLst rInt v20))) (eo_catO rfl (emb_l (emb_l (emb_r emb_id))) (ev_frz (eo_lcA (ei_tup (ev_var ((rTup rOut).mono (s84.trans s117) r71) rfl)) (fun v140 x141 F142 s143 r144 => cb_all (go_t2 r144) (fun w145 ⟨v147, v148, r149, r150, e151⟩ => by subst e151; exact wipe_s _ _ (by decide) (wipe_s _ _ (by decide) (wipe_w _ _))) (fun w145 ⟨v147, v148, r149, r150, e151⟩ => by subst e151; exact ev_σ (σ' := [some vnet, some vstate, some vpoured, some vfast, some v6, some i26, some v16, some v20, some v30, some v63, some v64, some v65, some v66, some v67, some v68, some v81, some v114, none, none, none, none, none, none, some v147, none, some v148]) rfl (ev_tup (by decide) (ea_cons (ev_var r149 rfl) (ea_one (ev_op vl_mul (ev_op vl_div (ev_var (rInt.mono (s117.trans s143) r85) rfl) (ev_var (rInt.mono s143 r118) rfl)) (ev_var r150 rfl)))))))))) (fun v => (rpl_l (rpl_l rpl_r))) fun v166 F167 s168 => b_σ (σ' := [some vnet, some vstate, some vpoured, some vfast, some v6, some v166, some v16, some v20, some v30, some v63, some v64, some v65, some v66, some v67, some v68, some v81, some v114, none, none, none, none, none, none, none, none, none]) rfl (b_set (ev_op vl_mod (ev_var (rInt.mono (s117.trans s168) r85) rfl) (ev_var (rInt.mono s168 r118) rfl)) fun v171 x172 F173 s174 r175 => b_σ (σ' := [some vnet, some vstate, some vpoured, some vfast, some v6, some v166, some v16, some v20, some v30, some v63, some v64, some v65, some v66, some v67, some v68, some v171, some v114, none, none, none, none, none, none, none, none, none]) rfl (b_app rfl (emb_l (emb_r emb_id)) (ev_var (rInt.mono ((((s52.trans s84).trans s117).trans s168).trans s174) r35) rfl) (b_ifJ (Sl := (fun (z : Int) (F : Hp) (σ : L2.St) => ∃ (u1 : V), σ = [some vnet, some vstate, some vpoured, some vfast, some v6, some v166, some v16, some v20, some v30, some v63, some v64, some v65, some v66, some v67, some v68, some u1, some v114, none, none, none, none, none, none, none, none, none] ∧ rInt.r F u1 z)) (et_not (et_B (ev_var (rBool.mono (((s84.trans s117).trans s168).trans s174) r72) rfl))) (b_app rfl (emb_l (emb_l (emb_r emb_id))) (ev_tup (by decide) (ea_cons (ev_nonO (R := rInt)) (ea_one (ev_var r175 rfl)))) (b_set ev_int fun v180 x181 F182 s183 r184 => b_σ (σ' := [some vnet, some vstate, some vpoured, some vfast, some v6, some v166, some v16, some v20, some v30, some v63, some v64, some v65, some v66, some v67, some v68, some v180, some v114, none, none, none, none, none, none, none, none, none]) rfl (b_nx pr_id (fun F185 s186 => ⟨v180, rfl, (rInt.mono s186 r184)⟩)))) (b_nx pr_id (fun F189 s190 => ⟨v171, rfl, (rInt.mono s190 r175)⟩)) (fun z191 F192 w193 s194 h195 => by obtain ⟨v197, e198, r199⟩ := h195; subst e198; exact b_nxI v166 pr_id (fun F200 s201 => ⟨v197, _, rfl, (rInt.mono s201 r199)⟩))))))) (b_nxI i26 pr_id (fun F204 s205 => ⟨v81, _, rfl, (rInt.mono s205 r85)⟩)) (fun z206 i211 F207 w208 s209 h210 => by obtain ⟨v212, o213, e214, r215⟩ := h210; subst e214; exact b_app rfl (emb_r emb_id) (ev_var r215 rfl) (b_nxI i211 pr_id (fun F216 s217 => ⟨_, _, _, _, _, _, _, _, _, rfl⟩))))))))) (fun z223 i27 F224 w225 s226 h227 => by obtain ⟨o228, o229, o230, o231, o232, o233, o234, o235, o236, e237⟩ := h227; subst e237; exact b_fzL (rm_l (rm_l rm_r)) fun x238 F239 s240 r241 => b_fzL (rm_l rm_r) fun x242 F243 s244 r245 => b_new (eo_cb vo_listT (ea_one (ev_prj (prj_s (prj_s prj_1)) (ev_var (rState.mono ((((((s9.trans s14).trans s18).trans s22).trans s226).trans s240).trans s244) rstate) rfl)))) fun v248 F249 s250 => b_σ (σ' := [some vnet, some vstate, some vpoured, some vfast, some v6, some i27, some v16, some v20, o228, o229, o230, o231, o232, o233, o234, o235, o236, some v248, none, none, none, none, none, none, none, none]) rfl (b_for (z0 := ()) (Sl := (fun (z : Unit) (F : Hp) (σ : L2.St) => ∃ (u1 : Option V) (u2 : Option V) (u3 : Option V), σ = [some vnet, some vstate, some vpoured, some vfast, some v6, some i27, some v16, some v20, u1, o229, o230, o231, o232, o233, o234, o235, o236, some v248, u2, u3, none, none, none, none, none, none])) (ei_lst (ev_var ((rLst rInt).mono s250 r245) rfl)) (fun F410 s411 => ⟨_, _, _, rfl⟩) (fun z253 x254 v255 F256 w257 s258 h259 r260 => by obtain ⟨o261, o262, o263, e264⟩ := h259; subst e264; exact b_go go_name (fun _ k => by subst k; exact b_σ (σ' := [some vnet, some vstate, some vpoured, some vfast, some v6, some i27, some v16, some v20, some v255, o229, o230, o231, o232, o233, o234, o235, o236, some v248, o262, o263, none, none, none, none, none, none]) rfl (b_for (z0 := ()) (Sl := (fun (z : Unit) (F : Hp) (σ : L2.St) => ∃ (u1 : Option V) (u2 : Option V), σ = [some vnet, some vstate, some vpoured, some vfast, some v6, some i27, some v16, some v20, some v255, o229, o230, o231, o232, o233, o234, o235, o236, some v248, u1, u2, none, none, none, none, none, none])) (ei_tup (ev_prj (prj_s (prj_s (prj_s (prj_s (prj_s prj_1))))) (ev_op vl_ixT (ev_prj prj_0 (ev_var (rNet.mono ((((((((s9.trans s14).trans s18).trans s22).trans s226).trans s240).trans s244).trans s250).trans s258) rnet) rfl)) (ev_var r260 rfl)))) (fun F326 s327 => ⟨_, _, rfl⟩) (fun z271 x272 v273 F274 w275 s276 h277 r278 => by obtain ⟨o279, o280, e281⟩ := h277; subst e281; exact b_go (go_t2 r278) (fun _ ⟨v282, v283, r284, r285, e286⟩ => by subst e286; exact b_σ (σ' := [some vnet, some vstate, some vpoured, some vfast, some v6, some i27, some v16, some v20, some v255, o229, o230, o231, o232, o233, o234, o235, o236, some v248, some v282, some v283, none, none, none, none, none, none]) rfl (b_setL rfl (emb_r emb_id) (ev_op vl_ixL (ev_frz (eo_lst (eal_cons (ev_not (ev_ixO rfl (emb_r emb_id) (ev_var r285 rfl))) (eal_cons ev_bl (eal_cons ev_bl eal_nil))))) (ev_indexS (ev_frz (eo_lst (eal_cons ev_str (eal_cons ev_str (eal_cons ev_str eal_nil))))) (ev_var r284 rfl))) (ev_var r285 rfl) (b_nx pr_id (fun F311 s312 => ⟨_, _, rfl⟩))))) (fun z316 F317 w318 s319 h320 => by obtain ⟨o321, o322, e323⟩ := h320; subst e323; exact b_nx pr_id (fun F324 s325 => ⟨_, _, _, rfl⟩)) (fun _ _ _ _ s ⟨a0, a1, e⟩ => ⟨a0, a1, e⟩)))) (fun z329 F330 w331 s332 h333 => by obtain ⟨o334, o335, o336, e337⟩ := h333; subst e337; exact b_set (ev_frz (eo_lcA (ei_rng1 (ev_cb vl_lenT (ea_one (ev_prj prj_0 (ev_var (rNet.mono ((((((((s9.trans s14).trans s18).trans s22).trans s226).trans s240).trans s244).trans s250).trans s332) rnet) rfl))))) (fun v341 x342 F343 s344 r345 => cb_all go_name (fun w346 k347 => by subst k347; exact wipe_s _ _ (by decide) (wipe_w _ _)) (fun w346 k347 => by subst k347; exact ev_σ (σ' := [some vnet, some vstate, some vpoured, some vfast, some v6, some i27, some v16, some v20, o334, o229, o230, o231, o232, o233, o234, o235, o236, some v248, o335, o336, none, none, some v341, none, none, none]) rfl (ev_cb vl_sumL (ea_one (ev_frz (eo_lcF (ei_lst (ev_var (R := (rLst (rTh (arC (rOpt rInt) (arOne rInt))))) ((rLst (rTh (arC (rOpt rInt) (arOne rInt)))).mono (((s244.trans s250).trans s332).trans s344) r241) rfl)) (fun v348 x349 F350 s351 r352 => cb_if (go_t2 r352) (fun w353 ⟨v355, v356, r357, r358, e359⟩ => by subst e359; exact wipe_s _ _ (by decide) (wipe_s _ _ (by decide) (wipe_w _ _))) (fun w353 ⟨v355, v356, r357, r358, e359⟩ => by subst e359; exact et_σ (σ' := [some vnet, some vstate, some vpoured, some vfast, some v6, some i27, some v16, some v20, o334, o229, o230, o231, o232, o233, o234, o235, o236, some v248, o335, o336, none, none, some v341, some v355, some v356, none]) rfl (et_test (ev_op vl_eqOI (ev_var r357 rfl) (ev_var (rInt.mono s351 r345) rfl)))) (fun w353 ⟨v355, v356, r357, r358, e359⟩ => by subst e359; exact ev_σ (σ' := [some vnet, some vstate, some vpoured, some vfast, some v6, some i27, some v16, some v20, o334, o229, o230, o231, o232, o233, o234, o235, o236, some v248, o335, o336, none, none, some v341, some v355, some v356, none]) rfl (ev_var r358 rfl))))))))))) fun v369 x370 F371 s372 r373 => b_σ (σ' := [some vnet, some vstate, some vpoured, some vfast, some v6, some i27, some v16, some v20, o334, o229, o230, o231, o232, o233, o234, o235, o236, some v248, o335, o336, some v369, none, none, none, none, none]) rfl (b_set (ev_cb vl_sumL (ea_one (ev_frz (eo_lcF (ei_lst (ev_var (R := (rLst (rTh (arC (rOpt rInt) (arOne rInt))))) ((rLst (rTh (arC (rOpt rInt) (arOne rInt)))).mono (((s244.trans s250).trans s332).trans s372) r241) rfl)) (fun v374 x375 F376 s377 r378 => cb_if (go_t2 r378) (fun w379 ⟨v381, v382, r383, r384, e385⟩ => by subst e385; exact wipe_s _ _ (by decide) (wipe_s _ _ (by decide) (wipe_w _ _))) (fun w379 ⟨v381, v382, r383, r384, e385⟩ => by subst e385; exact et_σ (σ' := [some vnet, some vstate, some vpoured, some vfast, some v6, some i27, some v16, some v20, o334, o229, o230, o231, o232, o233, o234, o235, o236, some v248, o335, o336, some v369, none, none, some v381, some v382, none]) rfl (et_test (ev_op vl_isNone (ev_var r383 rfl) ev_non))) (fun w379 ⟨v381, v382, r383, r384, e385⟩ => by subst e385; exact ev_σ (σ' := [some vnet, some vstate, some vpoured, some vfast, some v6, some i27, some v16, some v20, o334, o229, o230, o231, o232, o233, o234, o235, o236, some v248, o335, o336, some v369, none, none, some v381, some v382, none]) rfl (ev_var r384 rfl))))))) fun v392 x393 F394 s395 r396 => b_σ (σ' := [some vnet, some vstate, some vpoured, some vfast, some v6, some i27, some v16, some v20, o334, o229, o230, o231, o232, o233, o234, o235, o236, some v248, o335, o336, some v369, some v392, none, none, none, none]) rfl (b_ret pr_emp (ev_lsth (by decide) (ea_cons (ev_tup (by decide) (ea_cons (ev_cbO vh_tuple rfl (emb_l (emb_r emb_id))) (ea_cons (ev_cb vl_tupleL (ea_one (ev_var ((rLst rInt).mono s395 r373) rfl))) (ea_one (ev_cbO vh_tuple rfl (emb_r emb_id)))))) (ea_cons (ev_cb vl_tupleL (ea_one (ev_var ((rLst rInt).mono (((s250.trans s332).trans s372).trans s395) r245) rfl))) (ea_one (ev_var r396 rfl)))))))) (fun _ _ _ _ s ⟨a0, a1, a2, e⟩ => ⟨a0, a1, a2, e⟩))) (fun _ _ _ _ _ s ⟨a0, a1, a2, a3, a4, a5, a6, a7, a8, e⟩ => ⟨a0, a1, a2, a3, a4, a5, a6, a7, a8, e⟩)))))
/-! tips_in -/
abbrev s_tips_in : Stmt := top 14
abbrev N_tips_in : List Str := ["net", "ticks", "fast", "state", "found", "tick", "tipped", "ground", "came", "number", "vessel"]
theorem sc_tips_in : FnScope N_tips_in ["net", "ticks", "fast"] (defScope s_tips_in) := ⟨rfl, rfl, rfl, by decide +kernel, rfl, by decide +kernel, by decide +kernel⟩
def m_tips_in (xnet : Net) (xticks : Int) (xfast : (Option Int)) : Option (List (List Int)) := rn (bnd (bnd (ret xnet) fun a1 => lft (m_first_state a1)) fun x3 => wp (bnd (bnd (bnd (ret xnet) fun a13 => ret a13.1) fun q22 => bnd (lft (chk q22)) fun q23 => mp (fun x15 => bnd (ret ([] : List Int)) fun a21 => lft (few a21)) q23) (pshL (fun s => s.2) (fun s t => (s.1, t)) fun n8 => bnd (bnd (ret xticks) fun a24 => lft (rng 0 a24)) fun q125 => bnd (fd (fun z27 x28 => bnd (bnd (bnd (ret xnet) fun a48 => bnd (bnd (ret z27) fun a46 => bnd (bnd (bnd (ret xnet) fun a43 => lft (m_dry a43)) fun a44 => bnd (ret xfast) fun b45 => ret (a44, b45)) fun b47 => ret (a46, b47)) fun b49 => ret (a48, b49)) fun a50 => lft (m_tick_with a50.1 a50.2.1 a50.2.2.1 a50.2.2.2)) fun x52 => bnd (ret x52.2.1) fun q104 => bnd (fd (fun z76 x77 => bnd (bnd (ret n8) fun a86 => bnd (ret x77) fun b87 => lft (atI a86 b87)) fun k90 => bnd (ret x28) fun a91 => bnd (upI (fun s => s.2) (fun s t => (s.1, t)) k90 fun b92 => app b92 a91) fun _ => fun s => some ((), s)) () q104) fun z93 => fun s => some (x52.1, s)) x3 q125) fun z105 => fzL (fun s => s.2) (fun s => s.1) fun x118 => bnd (ret (pget x118 n8)) fun x122 s => some (x122, ()))))
abbrev sp_tips_in : Sp := spP (arC rNet (arC rInt (arOne (rOpt rInt)))) (rLst (rLst rInt)) (fun x => m_tips_in x.1 x.2.1 x.2.2)
theorem ok_tips_in {f : Addr} {fd : FuncData} (F : Fun K "tips_in" "tips_in" s_tips_in f fd) (T : Txt K mg) (c_first_state : Kn P w K mg base CX0 1 "first_state" ["net"] sp_first_state) (c_tick_with : Kn P w K mg base CX0 3 "tick_with" ["net", "state", "poured", "stuck"] sp_tick_with) (c_dry : Kn P w K mg base CX0 1 "dry" ["net"] sp_dry) : FnOk P w K mg base CX0 4 f fd ["net", "ticks", "fast"] sp_tips_in := by
  refine F.ok sc_tips_in (fun vs H Q E h => ?_) (fun cdv A outer s H vs Q E hr h => ?_)
  · obtain ⟨F, O, x, b, ⟨_, _, rfl, _, ⟨_, _, rfl, _, ⟨_, rfl, _⟩⟩⟩, _⟩ := h; rfl
  · obtain ⟨F, O, ⟨xnet, xticks, xfast⟩, b, ⟨vnet, _, rfl, rnet, ⟨vticks, _, rfl, rticks, ⟨vfast, rfl, rfast⟩⟩⟩, W, hm, k⟩ := h
    replace rnet : rNet.r F vnet xnet := rnet
    replace rticks : rInt.r F vticks xticks := rticks
    replace rfast : (rOpt rInt).r F vfast xfast := rfast
    replace hm : m_tips_in xnet xticks xfast = some b := hm
    refine ⟨_, (pss_cons (ps_set (i := 3) sc_tips_in.nd rfl (Or.inl rfl) (pe_kn c_first_state hr (by decide) (by rfl) (pa_cons (pv 0) pa_nil))) (pss_cons (ps_setLc (i := 4) (g := (gName 10)) (tt := tYes) (by rfl) sc_tips_in.nd rfl rfl (sw_true rfl rfl rfl (by decide +kernel)) (kpi_tup (K := K) (pe_ix (kix_tup (K := K)) (pv 0) pe_int (fun _ _ => rfl))) (blkOk_by (N := N_tips_in) (sc := defScope s_tips_in) (own := [("vessel", 10)]) (by decide +kernel)) (fun _ _ _ _ _ => (pg_name (i := 10) sc_tips_in.nd rfl (by first | exact Or.inl rfl | exact Or.inr rfl))) (fun _ _ _ _ _ => pts_nil) (fun _ _ _ _ _ => (pe_lst pa_nil))) (pss_cons (ps_for PassesOwn.never (by rfl) (pi_range1 (by rfl) T.range (pa_cons (pv 1) pa_nil)) (pg_name (i := 5) sc_tips_in.nd rfl (by first | exact Or.inl rfl | exact Or.inr rfl)) (pss_cons (ps_asg (pe_kn c_tick_with hr (by decide) (by rfl) (pa_cons (pv 0) (pa_cons (pv 3) (pa_cons (pe_kn c_dry hr (by decide) (by rfl) (pa_cons (pv 0) pa_nil)) (pa_cons (pv 2) pa_nil))))) (kpg_tup (K := K) (by rfl) (pgs_cons (pg_name (i := 3) sc_tips_in.nd rfl (by first | exact Or.inl rfl | exact Or.inr rfl)) (pgs_cons (pg_name (i := 6) sc_tips_in.nd rfl (by first | exact Or.inl rfl | exact Or.inr rfl)) (pgs_cons (pg_name (i := 7) sc_tips_in.nd rfl (by first | exact Or.inl rfl | exact Or.inr rfl)) (pgs_cons (pg_name (i := 8) sc_tips_in.nd rfl (by first | exact Or.inl rfl | exact Or.inr rfl)) pgs_nil)))))) (pss_cons (ps_for PassesOwn.never (by rfl) (kpi_tup (K := K) (pv 6)) (pg_name (i := 9) sc_tips_in.nd rfl (by first | exact Or.inl rfl | exact Or.inr rfl)) (pss_cons (ps_expr (kpe_bm (K := K) PySem.F.plainAttrs_list PySem.F.slot_list_append PySem.F.type_list_append mt_append (pe_ix (kix_list (K := K)) (pv 4) (pv 9) (fun _ _ => rfl)) (pa_cons (pv 5) pa_nil))) pss_nil)) pss_nil))) (pss_cons (ps_ret (pv 4)) pss_nil)))), ?_⟩
    refine ok_P W hm k ?_
    show B _ [some vnet, some vticks, some vfast, none, none, none, none, none, none, none, none] F emp _ _
    exact b_set (ev_callP (ea_one (ev_var rnet rfl))) fun v2 x3 F4 s5 r6 => b_σ (σ' := [some vnet, some vticks, some vfast, some v2, none, none, none, none, none, none, none]) rfl (b_pool (oLst rInt) (b_newL (A := (fun ps => (star emp (oPool (oLst rInt) ps)))) (enl_lc (k := fun v14 _ _ τ => τ = (wipe _ _).set 10 (some v14)) (ei_tup (ev_prj prj_0 (ev_var (rNet.mono s5 rnet) rfl))) (fun _ _ _ _ _ => go_name) (fun _ _ _ _ k20 => by subst k20; exact wipe_s _ _ (by decide) (wipe_w _ _)) (fun v14 x15 F16 w19 s17 r18 k20 => by subst k20; exact eo_σ (σ' := [some vnet, some vticks, some vfast, some v2, none, none, none, none, none, none, some v14]) rfl (eo_lst (eal_nil (R := rInt))))) embP_r (fun v7 w12 n8 F9 s10 r11 => b_σ (σ' := [some vnet, some vticks, some vfast, some v2, some v7, none, none, none, none, none, none]) rfl (b_for (z0 := x3) (Sl := (fun (z : State) (F : Hp) (σ : L2.St) => ∃ (u1 : V) (u2 : Option V) (u3 : Option V) (u4 : Option V) (u5 : Option V) (u6 : Option V), σ = [some vnet, some vticks, some vfast, some u1, some v7, u2, u3, u4, u5, u6, none] ∧ rState.r F u1 z)) (ei_rng1 (ev_var (rInt.mono (s5.trans s10) rticks) rfl)) (fun F123 s124 => ⟨v2, _, _, _, _, _, rfl, (rState.mono (s10.trans s124) r6)⟩) (fun z27 x28 v29 F30 w31 s32 h33 r34 => by obtain ⟨v35, o36, o37, o38, o39, o40, e41, r42⟩ := h33; subst e41; exact b_go go_name (fun _ k => by subst k; exact b_σ (σ' := [some vnet, some vticks, some vfast, some v35, some v7, some v29, o37, o38, o39, o40, none]) rfl (b_unp (ev_callP (ea_cons (ev_var (rNet.mono ((s5.trans s10).trans s32) rnet) rfl) (ea_cons (ev_var r42 rfl) (ea_cons (ev_callP (ea_one (ev_var (rNet.mono ((s5.trans s10).trans s32) rnet) rfl))) (ea_one (ev_var ((rOpt rInt).mono ((s5.trans s10).trans s32) rfast) rfl)))))) (fun _ _ _ _ r59 => go_t4 r59) fun v51 x52 F53 w56 s54 r55 ⟨v65, v66, v67, v68, r69, r70, r71, r72, e73⟩ => by subst e73; exact b_σ (σ' := [some vnet, some vticks, some vfast, some v65, some v7, some v29, some v66, some v67, some v68, o40, none]) rfl (b_for (z0 := ()) (Sl := (fun (z : Unit) (F : Hp) (σ : L2.St) => ∃ (u1 : Option V), σ = [some vnet, some vticks, some vfast, some v65, some v7, some v29, some v66, some v67, some v68, u1, none])) (ei_tup (ev_var r70 rfl)) (fun F102 s103 => ⟨_, rfl⟩) (fun z76 x77 v78 F79 w80 s81 h82 r83 => by obtain ⟨o84, e85⟩ := h82; subst e85; exact b_go go_name (fun _ k => by subst k; exact b_σ (σ' := [some vnet, some vticks, some vfast, some v65, some v7, some v29, some v66, some v67, some v68, some v78, none]) rfl (b_appP (ev_op vl_ixL (ev_var ((rLst (rRef ([] ++ w12))).mono ((s32.trans s54).trans s81) r11) rfl) (ev_var r83 rfl)) (emb_r emb_id) (ev_var (rInt.mono (s54.trans s81) r34) rfl) (b_nx pr_id (fun F88 s89 => ⟨_, rfl⟩))))) (fun z93 F94 w95 s96 h97 => by obtain ⟨o98, e99⟩ := h97; subst e99; exact b_nx pr_id (fun F100 s101 => ⟨v65, _, _, _, _, _, rfl, (rState.mono (s96.trans s101) r69)⟩)) (fun _ _ _ _ s ⟨a0, e⟩ => ⟨a0, e⟩))))) (fun z105 F106 w107 s108 h109 => by obtain ⟨v110, o111, o112, o113, o114, o115, e116, r117⟩ := h109; subst e116; exact b_fzPool rm_r fun x118 F119 s120 h121 => b_ret pr_emp (ev_var (lref_up h121 ((rLst (rRef ([] ++ w12))).mono (s108.trans s120) r11)) rfl)) (fun _ _ _ _ s ⟨a0, a1, a2, a3, a4, a5, e, r0⟩ => ⟨a0, a1, a2, a3, a4, a5, e, rState.mono s r0⟩)))))
/-! all_cases -/
abbrev s_all_cases : Stmt := top 15
abbrev N_all_cases : List Str := ["net"]
theorem sc_all_cases : FnScope N_all_cases ["net"] (defScope s_all_cases) := ⟨rfl, rfl, rfl, by decide +kernel, rfl, by decide +kernel, by decide +kernel⟩
def m_all_cases (xnet : Net) : Option (List (Option Int)) := rn (bnd (bnd (bnd (bnd (ret (none : (Option Int))) fun a1 => bnd (ret []) fun b2 => ret (a1 :: b2)) fun a3 => lft (few a3)) fun a8 => bnd (bnd (bnd (bnd (bnd (ret xnet) fun a4 => ret a4.1) fun a5 => lft (some (a5.length : Int))) fun a6 => lft (rngS a6)) fun x7 => lft ((fun x => some (x.map some) : (List Int) → Option (List (Option Int))) x7)) fun b9 => lft (catL a8 b9)) fun x10 s => some (x10, ()))
abbrev sp_all_cases : Sp := spP (arOne rNet) (rLst (rOpt rInt)) (fun x => m_all_cases x)
theorem ok_all_cases {f : Addr} {fd : FuncData} (F : Fun K "all_cases" "all_cases" s_all_cases f fd) (T : Txt K mg) : FnOk P w K mg base CX0 1 f fd ["net"] sp_all_cases := by
  refine F.ok sc_all_cases (fun vs H Q E h => ?_) (fun cdv A outer s H vs Q E hr h => ?_)
  · obtain ⟨F, O, x, b, ⟨_, rfl, _⟩, _⟩ := h; rfl
  · obtain ⟨F, O, xnet, b, ⟨vnet, rfl, rnet⟩, W, hm, k⟩ := h
    replace rnet : rNet.r F vnet xnet := rnet
    replace hm : m_all_cases xnet = some b := hm
    refine ⟨_, (pss_cons (ps_ret (pe_op op_cat (pe_lst (pa_cons pe_non pa_nil)) (pe_listRg (by rfl) (by rfl) T.list (prg_1 (by rfl) T.range (pe_callB (kc_len (K := K)) (by rfl) T.len (by decide +kernel) (pa_cons (pe_ix (kix_tup (K := K)) (pv 0) pe_int (fun _ _ => rfl)) pa_nil)))))) pss_nil), ?_⟩
    refine ok_P W hm k ?_
    show B _ [some vnet] F emp _ _
    exact b_ret pr_emp (ev_frz (eo_op vo_cat (ev_frz (eo_lst (eal_cons (ev_nonO (R := rInt)) eal_nil))) (ev_cvP cvp_lopt (ev_frz (eo_listRg (ev_cb vl_lenT (ea_one (ev_prj prj_0 (ev_var rnet rfl)))))))))
/-! cases -/
abbrev s_cases : Stmt := top 16
abbrev N_cases : List Str := ["net", "watched", "ticks", "seen", "fast"]
theorem sc_cases : FnScope N_cases ["net", "watched", "ticks", "seen"] (defScope s_cases) := ⟨rfl, rfl, rfl, by decide +kernel, rfl, by decide +kernel, by decide +kernel⟩
def m_cases (xnet : Net) (xwatched : Int) (xticks : Int) (xseen : (List Int)) : Option ((List (Option Int)) ⊕ Str) := rn (bndX (fun n s => (.inr n, ())) (bnd (bnd (ret xnet) fun a1 => bnd (ret xwatched) fun b2 => ret (a1, b2)) fun a3 => lft (m_need_vessel a3.1 a3.2)) fun x4 => bnd (bnd (bnd (ret xnet) fun a7 => lft (m_all_cases a7)) fun q26 => bnd (lft (chk q26)) fun q27 => mpf (fun x9 => bnd (bnd (bnd (bnd (ret xnet) fun a17 => bnd (bnd (ret xticks) fun a15 => bnd (ret x9) fun b16 => ret (a15, b16)) fun b18 => ret (a17, b18)) fun a19 => lft (m_tips_in a19.1 a19.2.1 a19.2.2)) fun a20 => bnd (ret xwatched) fun b21 => lft (atI a20 b21)) fun a23 => bnd (bnd (ret xseen) fun a22 => lft (some a22)) fun b24 => lft (eqD ((dLst dInt).d a23) ((dLst dInt).d b24))) (fun x9 => ret x9) q27) fun x28 s => some (.inl x28, ()))
abbrev sp_cases (K : PySem.W.Frag) : Sp := spPX K (arC rNet (arC rInt (arC rInt (arOne (rLst rInt))))) (rLst (rOpt rInt)) (fun x => m_cases x.1 x.2.1 x.2.2.1 x.2.2.2)
theorem ok_cases {f : Addr} {fd : FuncData} (F : Fun K "cases" "cases" s_cases f fd) (T : Txt K mg) (c_need_vessel : Kn P w K mg base (L2.CX P w) 1 "need_vessel" ["net", "vessel"] (sp_need_vessel K)) (c_all_cases : Kn P w K mg base CX0 1 "all_cases" ["net"] sp_all_cases) (c_tips_in : Kn P w K mg base CX0 4 "tips_in" ["net", "ticks", "fast"] sp_tips_in) : FnOk P w K mg base (L2.CX P w) 5 f fd ["net", "watched", "ticks", "seen"] (sp_cases K) := by
  refine F.okX sc_cases (fun vs H Q E h => ?_) (fun cdv A outer s H vs Q E hr h => ?_)
  · obtain ⟨F, O, x, b, ⟨_, _, rfl, _, ⟨_, _, rfl, _, ⟨_, _, rfl, _, ⟨_, rfl, _⟩⟩⟩⟩, _⟩ := h; rfl
  · obtain ⟨F, O, ⟨xnet, xwatched, xticks, xseen⟩, b, ⟨vnet, _, rfl, rnet, ⟨vwatched, _, rfl, rwatched, ⟨vticks, _, rfl, rticks, ⟨vseen, rfl, rseen⟩⟩⟩⟩, W, hm, k⟩ := h
    replace rnet : rNet.r F vnet xnet := rnet
    replace rwatched : rInt.r F vwatched xwatched := rwatched
    replace rticks : rInt.r F vticks xticks := rticks
    replace rseen : (rLst rInt).r F vseen xseen := rseen
    replace hm : m_cases xnet xwatched xticks xseen = some b := hm
    refine ⟨_, (pss_cons (ps_expr (pe_knS c_need_vessel (takes_of rfl rfl rfl rfl) hr (by decide) (by rfl) (pa_cons (pv 0) (pa_cons (pv 1) pa_nil)))) (pss_cons (ps_ret (pe_lc (g := (gName 4)) (by rfl) sc_cases.nd (kpi_list (K := K) (pe_kn c_all_cases hr (by decide) (by rfl) (pa_cons (pv 0) pa_nil))) (blkOk_by (N := N_cases) (sc := defScope s_cases) (own := [("fast", 4)]) (by decide +kernel)) (fun _ _ _ _ _ => (pg_name (i := 4) sc_cases.nd rfl (by first | exact Or.inl rfl | exact Or.inr rfl))) (fun _ _ _ _ _ => pts_one (pt_cmpR (kop_eqD (K := K) hr.units) (pe_ix (kix_list (K := K)) (pe_kn c_tips_in hr (by decide) (by rfl) (pa_cons (pv 0) (pa_cons (pv 2) (pa_cons (pv 4) pa_nil)))) (pv 1) (fun _ _ => rfl)) (pe_callTy (kc_list (K := K)) (by rfl) T.list (by decide +kernel) (pa_cons (pv 3) pa_nil)) (nomark _))) (fun _ _ _ _ _ => (pv 4)))) pss_nil)), ?_⟩
    refine ok_PX W hm k ?_
    show B _ [some vnet, some vwatched, some vticks, some vseen, none] F emp _ _
    exact b_exprX (fun _ _ => rz_rt pr_emp) (evx_callP (ea_cons (ev_var rnet rfl) (ea_one (ev_var rwatched rfl)))) fun x4 F5 s6 => b_retX pr_emp (ev_frz (eo_lcF (ei_lst (ev_callP (ea_one (ev_var (rNet.mono s6 rnet) rfl)))) (fun v8 x9 F10 s11 r12 => cb_if go_name (fun w13 k14 => by subst k14; exact wipe_s _ _ (by decide) (wipe_w _ _)) (fun w13 k14 => by subst k14; exact et_σ (σ' := [some vnet, some vwatched, some vticks, some vseen, some v8]) rfl (et_test (ev_op (vl_eqD (dLst dInt) (dLst dInt)) (ev_op vl_ixL (ev_callP (ea_cons (ev_var (rNet.mono (s6.trans s11) rnet) rfl) (ea_cons (ev_var (rInt.mono (s6.trans s11) rticks) rfl) (ea_one (ev_var r12 rfl))))) (ev_var (rInt.mono (s6.trans s11) rwatched) rfl)) (ev_frz (eo_cb vo_listL (ea_one (ev_var ((rLst rInt).mono (s6.trans s11) rseen) rfl))))))) (fun w13 k14 => by subst k14; exact ev_σ (σ' := [some vnet, some vwatched, some vticks, some vseen, some v8]) rfl (ev_var r12 rfl)))))
/-! _law_walk -/
abbrev s_law_walk : Stmt := top 26
abbrev N_law_walk : List Str := ["net", "ticks", "fast", "states", "tips", "k", "state", "tipped", "ground"]
theorem sc_law_walk : FnScope N_law_walk ["net", "ticks", "fast"] (defScope s_law_walk) := ⟨rfl, rfl, rfl, by decide +kernel, rfl, by decide +kernel, by decide +kernel⟩
def m_law_walk (xnet : Net) (xticks : Int) (xfast : (Option Int)) : Option ((List State) × (List (List Int))) := rn (bnd (bnd (bnd (bnd (ret xnet) fun a1 => lft (m_law_first a1)) fun a2 => bnd (ret []) fun b3 => ret (a2 :: b3)) fun a4 => lft (few a4)) (nw (bnd (bnd (ret ([] : List (List Int))) fun a8 => lft (few a8)) (nw (bnd (bnd (ret xticks) fun a12 => lft (rng 0 a12)) fun q95 => bnd (fd (fun z15 x16 => bnd (bnd (bnd (ret xnet) fun a42 => bnd (bnd (bnd (bnd (ret (1 : Int)) fun a28 => ret (-a28)) fun a29 => gtL (fun s => s.1.2) fun b30 => atI b30 a29) fun a40 => bnd (bnd (bnd (bnd (bnd (ret (0 : Int)) fun a31 => bnd (ret []) fun b32 => ret (a31 :: b32)) fun a33 => lft (few a33)) fun a36 => bnd (bnd (bnd (ret xnet) fun a34 => ret a34.1) fun a35 => lft (some (a35.length : Int))) fun b37 => lft (repT a36 b37)) fun a38 => bnd (ret xfast) fun b39 => ret (a38, b39)) fun b41 => ret (a40, b41)) fun b43 => ret (a42, b43)) fun a44 => lft (m_law_tick a44.1 a44.2.1 a44.2.2.1 a44.2.2.2)) fun x46 => bnd (ret x46.1) fun a70 => bnd (upL (fun s => s.1.2) (fun s t => ((s.1.1, t), s.2)) fun b71 => app b71 a70) fun _ => bnd (ret x46.2.1) fun a68 => bnd (upL (fun s => s.2) (fun s t => (s.1, t)) fun b69 => app b69 a68) fun _ => fun s => some ((), s)) () q95) fun z72 => fzL (fun s => s.1.2) (fun s => (s.1.1, s.2)) fun x82 => fzL (fun s => s.2) (fun s => s.1) fun x86 => bnd (bnd (ret x82) fun a90 => bnd (ret x86) fun b91 => ret (a90, b91)) fun x92 s => some (x92, ()))))))
abbrev sp_law_walk : Sp := spP (arC rNet (arC rInt (arOne (rOpt rInt)))) (rLh (arC (rLst rState) (arOne (rLst (rTup rInt))))) (fun x => m_law_walk x.1 x.2.1 x.2.2)
theorem ok_law_walk {f : Addr} {fd : FuncData} (F : Fun K "_law_walk" "_law_walk" s_law_walk f fd) (T : Txt K mg) (c_law_first : Kn P w K mg base CX0 1 "_law_first" ["net"] sp_law_first) (c_law_tick : Kn P w K mg base CX0 2 "_law_tick" ["net", "state", "poured", "fast"] sp_law_tick) : FnOk P w K mg base CX0 3 f fd ["net", "ticks", "fast"] sp_law_walk := by
  refine F.ok sc_law_walk (fun vs H Q E h => ?_) (fun cdv A outer s H vs Q E hr h => ?_)
  · obtain ⟨F, O, x, b, ⟨_, _, rfl, _, ⟨_, _, rfl, _, ⟨_, rfl, _⟩⟩⟩, _⟩ := h; rfl
  · obtain ⟨F, O, ⟨xnet, xticks, xfast⟩, b, ⟨vnet, _, rfl, rnet, ⟨vticks, _, rfl, rticks, ⟨vfast, rfl, rfast⟩⟩⟩, W, hm, k⟩ := h
    replace rnet : rNet.r F vnet xnet := rnet
    replace rticks : rInt.r F vticks xticks := rticks
    replace rfast : (rOpt rInt).r F vfast xfast := rfast
    replace hm : m_law_walk xnet xticks xfast = some b := hm
    refine ⟨_, (pss_cons (ps_set (i := 3) sc_law_walk.nd rfl (Or.inl rfl) (pe_lst (pa_cons (pe_kn c_law_first hr (by decide) (by rfl) (pa_cons (pv 0) pa_nil)) pa_nil))) (pss_cons (ps_set (i := 4) sc_law_walk.nd rfl (Or.inl rfl) (pe_lst pa_nil)) (pss_cons (ps_for PassesOwn.never (by rfl) (pi_range1 (by rfl) T.range (pa_cons (pv 1) pa_nil)) (pg_name (i := 5) sc_law_walk.nd rfl (by first | exact Or.inl rfl | exact Or.inr rfl)) (pss_cons (ps_asg (pe_kn c_law_tick hr (by decide) (by rfl) (pa_cons (pv 0) (pa_cons (pe_ix (kix_list (K := K)) (pv 3) (pe_un un_neg pe_int) (fun _ _ => rfl)) (pa_cons (pe_op (kop_repT (K := K)) (pe_tup (pa_cons pe_int pa_nil)) (pe_callB (kc_len (K := K)) (by rfl) T.len (by decide +kernel) (pa_cons (pe_ix (kix_tup (K := K)) (pv 0) pe_int (fun _ _ => rfl)) pa_nil))) (pa_cons (pv 2) pa_nil))))) (kpg_unl (K := K) (by rfl) (pgs_cons (pg_name (i := 6) sc_law_walk.nd rfl (by first | exact Or.inl rfl | exact Or.inr rfl)) (pgs_cons (pg_name (i := 7) sc_law_walk.nd rfl (by first | exact Or.inl rfl | exact Or.inr rfl)) (pgs_cons (pg_name (i := 8) sc_law_walk.nd rfl (by first | exact Or.inl rfl | exact Or.inr rfl)) pgs_nil))))) (pss_cons (ps_expr (kpe_bm (K := K) PySem.F.plainAttrs_list PySem.F.slot_list_append PySem.F.type_list_append mt_append (pv 3) (pa_cons (pv 6) pa_nil))) (pss_cons (ps_expr (kpe_bm (K := K) PySem.F.plainAttrs_list PySem.F.slot_list_append PySem.F.type_list_append mt_append (pv 4) (pa_cons (pv 7) pa_nil))) pss_nil)))) (pss_cons (ps_ret (pe_lst (pa_cons (pv 3) (pa_cons (pv 4) pa_nil)))) pss_nil)))), ?_⟩
    refine ok_P W hm k ?_
    show B _ [some vnet, some vticks, some vfast, none, none, none, none, none, none] F emp _ _
    exact b_new (eo_lst (eal_cons (ev_callP (ea_one (ev_var rnet rfl))) eal_nil)) fun v5 F6 s7 => b_σ (σ' := [some vnet, some vticks, some vfast, some v5, none, none, none, none, none]) rfl (b_new (eo_lst (eal_nil (R := (rTup rInt)))) fun v9 F10 s11 => b_σ (σ' := [some vnet, some vticks, some vfast, some v5, some v9, none, none, none, none]) rfl (b_for (z0 := ()) (Sl := (fun (z : Unit) (F : Hp) (σ : L2.St) => ∃ (u1 : Option V) (u2 : Option V) (u3 : Option V) (u4 : Option V), σ = [some vnet, some vticks, some vfast, some v5, some v9, u1, u2, u3, u4])) (ei_rng1 (ev_var (rInt.mono (s7.trans s11) rticks) rfl)) (fun F93 s94 => ⟨_, _, _, _, rfl⟩) (fun z15 x16 v17 F18 w19 s20 h21 r22 => by obtain ⟨o23, o24, o25, o26, e27⟩ := h21; subst e27; exact b_go go_name (fun _ k => by subst k; exact b_σ (σ' := [some vnet, some vticks, some vfast, some v5, some v9, some v17, o24, o25, o26]) rfl (b_unp (ev_callP (ea_cons (ev_var (rNet.mono ((s7.trans s11).trans s20) rnet) rfl) (ea_cons (ev_ixO rfl (emb_l (emb_r emb_id)) (ev_neg ev_int)) (ea_cons (ev_op vl_repT (ev_tupl (eal_cons ev_int eal_nil)) (ev_cb vl_lenT (ea_one (ev_prj prj_0 (ev_var (rNet.mono ((s7.trans s11).trans s20) rnet) rfl))))) (ea_one (ev_var ((rOpt rInt).mono ((s7.trans s11).trans s20) rfast) rfl)))))) (fun _ _ _ _ r53 => go_l3 r53) fun v45 x46 F47 w50 s48 r49 ⟨v59, v60, v61, r62, r63, r64, e65⟩ => by subst e65; exact b_σ (σ' := [some vnet, some vticks, some vfast, some v5, some v9, some v17, some v59, some v60, some v61]) rfl (b_app rfl (emb_l (emb_r emb_id)) (ev_var r62 rfl) (b_app rfl (emb_r emb_id) (ev_var r63 rfl) (b_nx pr_id (fun F66 s67 => ⟨_, _, _, _, rfl⟩))))))) (fun z72 F73 w74 s75 h76 => by obtain ⟨o77, o78, o79, o80, e81⟩ := h76; subst e81; exact b_fzL (rm_l rm_r) fun x82 F83 s84 r85 => b_fzL rm_r fun x86 F87 s88 r89 => b_ret pr_emp (ev_lsth (by decide) (ea_cons (ev_var (R := (rLst rState)) ((rLst rState).mono s88 r85) rfl) (ea_one (ev_var r89 rfl))))) (fun _ _ _ _ s ⟨a0, a1, a2, a3, e⟩ => ⟨a0, a1, a2, a3, e⟩)))
/-! _law_tips -/
abbrev s_law_tips : Stmt := top 27
abbrev N_law_tips : List Str := ["net", "ticks", "fast", "states", "tips", "k", "tick"]
theorem sc_law_tips : FnScope N_law_tips ["net", "ticks", "fast"] (defScope s_law_tips) := ⟨rfl, rfl, rfl, by decide +kernel, rfl, by decide +kernel, by decide +kernel⟩
def m_law_tips (xnet : Net) (xticks : Int) (xfast : (Option Int)) : Option (List (List Int)) := rn (bnd (bnd (bnd (ret xnet) fun a3 => bnd (bnd (ret xticks) fun a1 => bnd (ret xfast) fun b2 => ret (a1, b2)) fun b4 => ret (a3, b4)) fun a5 => lft (m_law_walk a5.1 a5.2.1 a5.2.2)) fun x7 => bnd (bnd (bnd (bnd (bnd (ret xnet) fun a25 => ret a25.1) fun a26 => lft (some (a26.length : Int))) fun a27 => lft (rng 0 a27)) fun q51 => bnd (lft (chk q51)) fun q52 => mp (fun x29 => bnd (bnd (ret xticks) fun a35 => lft (rng 0 a35)) fun q48 => bnd (lft (chk q48)) fun q49 => mpf (fun x37 => bnd (ret x29) fun a45 => bnd (bnd (ret x7.2) fun a43 => bnd (ret x37) fun b44 => lft (atI a43 b44)) fun b46 => lft (some (b46.any fun b => decide (b = a45)))) (fun x37 => ret x37) q49) q52) fun x53 s => some (x53, ()))
abbrev sp_law_tips : Sp := spP (arC rNet (arC rInt (arOne (rOpt rInt)))) (rLst (rLst rInt)) (fun x => m_law_tips x.1 x.2.1 x.2.2)
theorem ok_law_tips {f : Addr} {fd : FuncData} (F : Fun K "_law_tips" "_law_tips" s_law_tips f fd) (T : Txt K mg) (c_law_walk : Kn P w K mg base CX0 3 "_law_walk" ["net", "ticks", "fast"] sp_law_walk) : FnOk P w K mg base CX0 4 f fd ["net", "ticks", "fast"] sp_law_tips := by
  refine F.ok sc_law_tips (fun vs H Q E h => ?_) (fun cdv A outer s H vs Q E hr h => ?_)
  · obtain ⟨F, O, x, b, ⟨_, _, rfl, _, ⟨_, _, rfl, _, ⟨_, rfl, _⟩⟩⟩, _⟩ := h; rfl
  · obtain ⟨F, O, ⟨xnet, xticks, xfast⟩, b, ⟨vnet, _, rfl, rnet, ⟨vticks, _, rfl, rticks, ⟨vfast, rfl, rfast⟩⟩⟩, W, hm, k⟩ := h
    replace rnet : rNet.r F vnet xnet := rnet
    replace rticks : rInt.r F vticks xticks := rticks
    replace rfast : (rOpt rInt).r F vfast xfast := rfast
    replace hm : m_law_tips xnet xticks xfast = some b := hm
    refine ⟨_, (pss_cons (ps_asg (pe_kn c_law_walk hr (by decide) (by rfl) (pa_cons (pv 0) (pa_cons (pv 1) (pa_cons (pv 2) pa_nil)))) (kpg_unl (K := K) (by rfl) (pgs_cons (pg_name (i := 3) sc_law_tips.nd rfl (by first | exact Or.inl rfl | exact Or.inr rfl)) (pgs_cons (pg_name (i := 4) sc_law_tips.nd rfl (by first | exact Or.inl rfl | exact Or.inr rfl)) pgs_nil)))) (pss_cons (ps_ret (pe_lc (g := (gName 5)) (tt := tYes) (by rfl) sc_law_tips.nd (pi_range1 (by rfl) T.range (pa_cons (pe_callB (kc_len (K := K)) (by rfl) T.len (by decide +kernel) (pa_cons (pe_ix (kix_tup (K := K)) (pv 0) pe_int (fun _ _ => rfl)) pa_nil)) pa_nil)) (blkOk_by (N := N_law_tips) (sc := defScope s_law_tips) (own := [("k", 5)]) (by decide +kernel)) (fun _ _ _ _ _ => (pg_name (i := 5) sc_law_tips.nd rfl (by first | exact Or.inl rfl | exact Or.inr rfl))) (fun _ _ _ _ _ => pts_nil) (fun _ _ _ _ _ => (pe_lc (g := (gName 6)) (by rfl) sc_law_tips.nd (pi_range1 (by rfl) T.range (pa_cons (pv 1) pa_nil)) (blkOk_by (N := N_law_tips) (sc := relS _ (defScope s_law_tips)) (own := [("tick", 6)]) (by decide +kernel)) (fun _ _ _ _ _ => (pg_name (i := 6) sc_law_tips.nd rfl (by first | exact Or.inl rfl | exact Or.inr rfl))) (fun _ _ _ _ _ => pts_one (pt_cmpR (kop_in (K := K)) (pv 5) (pe_ix (kix_list (K := K)) (pv 4) (pv 6) (fun _ _ => rfl)) (by rfl))) (fun _ _ _ _ _ => (pv 6)))))) pss_nil)), ?_⟩
    refine ok_P W hm k ?_
    show B _ [some vnet, some vticks, some vfast, none, none, none, none] F emp _ _
    exact b_unp (ev_callP (ea_cons (ev_var rnet rfl) (ea_cons (ev_var rticks rfl) (ea_one (ev_var rfast rfl))))) (fun _ _ _ _ r14 => go_l2 r14) fun v6 x7 F8 w11 s9 r10 ⟨v20, v21, r22, r23, e24⟩ => by subst e24; exact b_σ (σ' := [some vnet, some vticks, some vfast, some v20, some v21, none, none]) rfl (b_ret pr_emp (ev_frz (eo_lcA (ei_rng1 (ev_cb vl_lenT (ea_one (ev_prj prj_0 (ev_var (rNet.mono s9 rnet) rfl))))) (fun v28 x29 F30 s31 r32 => cb_all go_name (fun w33 k34 => by subst k34; exact wipe_s _ _ (by decide) (wipe_w _ _)) (fun w33 k34 => by subst k34; exact ev_σ (σ' := [some vnet, some vticks, some vfast, some v20, some v21, some v28, none]) rfl (ev_frz (eo_lcF (ei_rng1 (ev_var (rInt.mono (s9.trans s31) rticks) rfl)) (fun v36 x37 F38 s39 r40 => cb_if go_name (fun w41 k42 => by subst k42; exact wipe_s _ _ (by decide) (wipe_w _ _)) (fun w41 k42 => by subst k42; exact et_σ (σ' := [some vnet, some vticks, some vfast, some v20, some v21, some v28, some v36]) rfl (et_test (ev_op vl_inIT (ev_var (rInt.mono s39 r32) rfl) (ev_op vl_ixL (ev_var ((rLst (rTup rInt)).mono (s31.trans s39) r23) rfl) (ev_var r40 rfl))))) (fun w41 k42 => by subst k42; exact ev_σ (σ' := [some vnet, some vticks, some vfast, some v20, some v21, some v28, some v36]) rfl (ev_var r40 rfl))))))))))
/-! best_watch -/
abbrev s_best_watch : Stmt := top 17
abbrev N_best_watch : List Str := ["net", "ticks", "rows", "best", "number", "unlike", "row", "fast"]
theorem sc_best_watch : FnScope N_best_watch ["net", "ticks"] (defScope s_best_watch) := ⟨rfl, rfl, rfl, by decide +kernel, rfl, by decide +kernel, by decide +kernel⟩
def m_best_watch (xnet : Net) (xticks : Int) : Option (Int × Int) := rn (bnd (bnd (bnd (ret xnet) fun a1 => lft (m_all_cases a1)) fun q15 => bnd (lft (chk q15)) fun q16 => mp (fun x3 => bnd (bnd (ret xnet) fun a11 => bnd (bnd (ret xticks) fun a9 => bnd (ret x3) fun b10 => ret (a9, b10)) fun b12 => ret (a11, b12)) fun a13 => lft (m_tips_in a13.1 a13.2.1 a13.2.2)) q16) fun x18 => bnd (bnd (ret (0 : Int)) fun a22 => bnd (ret (0 : Int)) fun b23 => ret (a22, b23)) fun x25 => bnd (bnd (bnd (bnd (ret xnet) fun a29 => ret a29.1) fun a30 => lft (some (a30.length : Int))) fun a31 => lft (rng 0 a31)) fun q138 => bnd (fd (fun z34 x35 => bnd (bnd (ret ([] : List (List Int))) fun a48 => lft (few a48)) (nw (bnd (ret x18) fun q123 => bnd (fd (fun z54 x55 => bnd (bnd (bnd (bnd (ret x55) fun a64 => bnd (ret x35) fun b65 => lft (atI a64 b65)) fun a66 => gtL (fun s => s.2) fun d67 => (inDd ((dLst dInt).d a66) (d67.map (dLst dInt).d)).map (!·)) fun b68 => bif b68 then (bnd (bnd (ret x55) fun a69 => bnd (ret x35) fun b70 => lft (atI a69 b70)) fun a73 => bnd (upL (fun s => s.2) (fun s t => (s.1, t)) fun b74 => app b74 a73) fun _ => fun s => some ((), s)) else (fun s => some ((), s))) fun z77 => fun s => some ((), s)) () q123) fun z86 => bnd (bnd (bnd (gtL (fun s => s.2) fun a93 => some (a93.length : Int)) fun a95 => bnd (bnd (ret z34) fun a94 => ret a94.2) fun b96 => lft (some (decide (b96 < a95)))) fun b97 => bif b97 then (bnd (bnd (ret x35) fun a99 => bnd (gtL (fun s => s.2) fun a98 => some (a98.length : Int)) fun b100 => ret (a99, b100)) fun x102 => fun s => some (x102, s)) else (fun s => some (z34, s))) fun z110 => fun s => some (z110, s.1)))) x25 q138) fun z124 => bnd (ret z124) fun x135 s => some (x135, ()))
abbrev sp_best_watch : Sp := spP (arC rNet (arOne rInt)) (rTh (arC rInt (arOne rInt))) (fun x => m_best_watch x.1 x.2)
theorem ok_best_watch {f : Addr} {fd : FuncData} (F : Fun K "best_watch" "best_watch" s_best_watch f fd) (T : Txt K mg) (c_all_cases : Kn P w K mg base CX0 1 "all_cases" ["net"] sp_all_cases) (c_tips_in : Kn P w K mg base CX0 4 "tips_in" ["net", "ticks", "fast"] sp_tips_in) : FnOk P w K mg base CX0 5 f fd ["net", "ticks"] sp_best_watch := by
  refine F.ok sc_best_watch (fun vs H Q E h => ?_) (fun cdv A outer s H vs Q E hr h => ?_)
  · obtain ⟨F, O, x, b, ⟨_, _, rfl, _, ⟨_, rfl, _⟩⟩, _⟩ := h; rfl
  · obtain ⟨F, O, ⟨xnet, xticks⟩, b, ⟨vnet, _, rfl, rnet, ⟨vticks, rfl, rticks⟩⟩, W, hm, k⟩ := h
    replace rnet : rNet.r F vnet xnet := rnet
    replace rticks : rInt.r F vticks xticks := rticks
    replace hm : m_best_watch xnet xticks = some b := hm
    refine ⟨_, (pss_cons (ps_setLc (i := 2) (g := (gName 7)) (tt := tYes) (by rfl) sc_best_watch.nd rfl rfl (sw_true rfl rfl rfl (by decide +kernel)) (kpi_list (K := K) (pe_kn c_all_cases hr (by decide) (by rfl) (pa_cons (pv 0) pa_nil))) (blkOk_by (N := N_best_watch) (sc := defScope s_best_watch) (own := [("fast", 7)]) (by decide +kernel)) (fun _ _ _ _ _ => (pg_name (i := 7) sc_best_watch.nd rfl (by first | exact Or.inl rfl | exact Or.inr rfl))) (fun _ _ _ _ _ => pts_nil) (fun _ _ _ _ _ => (pe_kn c_tips_in hr (by decide) (by rfl) (pa_cons (pv 0) (pa_cons (pv 1) (pa_cons (pv 7) pa_nil)))))) (pss_cons (ps_set (i := 3) sc_best_watch.nd rfl (Or.inl rfl) (pe_tup (pa_cons pe_int (pa_cons pe_int pa_nil)))) (pss_cons (ps_for PassesOwn.never (by rfl) (pi_range1 (by rfl) T.range (pa_cons (pe_callB (kc_len (K := K)) (by rfl) T.len (by decide +kernel) (pa_cons (pe_ix (kix_tup (K := K)) (pv 0) pe_int (fun _ _ => rfl)) pa_nil)) pa_nil)) (pg_name (i := 4) sc_best_watch.nd rfl (by first | exact Or.inl rfl | exact Or.inr rfl)) (pss_cons (ps_set (i := 5) sc_best_watch.nd rfl (Or.inl rfl) (pe_lst pa_nil)) (pss_cons (ps_for PassesOwn.never (by rfl) (kpi_list (K := K) (pv 2)) (pg_name (i := 6) sc_best_watch.nd rfl (by first | exact Or.inl rfl | exact Or.inr rfl)) (Evl.pss_cut (ps_if (pt_cmpR (kop_niDd (K := K) hr.units65) (pe_ix (kix_list (K := K)) (pv 6) (pv 4) (fun _ _ => rfl)) (pv 5) (by rfl)) (pss_cons (ps_expr (kpe_bm (K := K) PySem.F.plainAttrs_list PySem.F.slot_list_append PySem.F.type_list_append mt_append (pv 5) (pa_cons (pe_ix (kix_list (K := K)) (pv 6) (pv 4) (fun _ _ => rfl)) pa_nil))) pss_nil) pss_nil) pss_nil)) (Evl.pss_cut (ps_if (pt_cmpR op_gt (pe_callB (kc_len (K := K)) (by rfl) T.len (by decide +kernel) (pa_cons (pv 5) pa_nil)) (pe_ix (kix_tup (K := K)) (pv 3) pe_int (fun _ _ => rfl)) (nomark _)) (pss_cons (ps_set (i := 3) sc_best_watch.nd rfl (Or.inl rfl) (pe_tup (pa_cons (pv 4) (pa_cons (pe_callB (kc_len (K := K)) (by rfl) T.len (by decide +kernel) (pa_cons (pv 5) pa_nil)) pa_nil)))) pss_nil) pss_nil) pss_nil)))) (pss_cons (ps_ret (pv 3)) pss_nil)))), ?_⟩
    refine ok_P W hm k ?_
    show B _ [some vnet, some vticks, none, none, none, none, none, none] F emp _ _
    exact b_set (ev_frz (eo_lcA (ei_lst (ev_callP (ea_one (ev_var rnet rfl)))) (fun v2 x3 F4 s5 r6 => cb_all go_name (fun w7 k8 => by subst k8; exact wipe_s _ _ (by decide) (wipe_w _ _)) (fun w7 k8 => by subst k8; exact ev_σ (σ' := [some vnet, some vticks, none, none, none, none, none, some v2]) rfl (ev_callP (ea_cons (ev_var (rNet.mono s5 rnet) rfl) (ea_cons (ev_var (rInt.mono s5 rticks) rfl) (ea_one (ev_var r6 rfl))))))))) fun v17 x18 F19 s20 r21 => b_σ (σ' := [some vnet, some vticks, some v17, none, none, none, none, none]) rfl (b_set (ev_tup (by decide) (ea_cons ev_int (ea_one ev_int))) fun v24 x25 F26 s27 r28 => b_σ (σ' := [some vnet, some vticks, some v17, some v24, none, none, none, none]) rfl (b_for (z0 := x25) (Sl := (fun (z : (Int × Int)) (F : Hp) (σ : L2.St) => ∃ (u1 : V) (u2 : Option V) (u3 : Option V) (u4 : Option V), σ = [some vnet, some vticks, some v17, some u1, u2, u3, u4, none] ∧ (rTh (arC rInt (arOne rInt))).r F u1 z)) (ei_rng1 (ev_cb vl_lenT (ea_one (ev_prj prj_0 (ev_var (rNet.mono (s20.trans s27) rnet) rfl))))) (fun F136 s137 => ⟨v24, _, _, _, rfl, ((rTh (arC rInt (arOne rInt))).mono s137 r28)⟩) (fun z34 x35 v36 F37 w38 s39 h40 r41 => by obtain ⟨v42, o43, o44, o45, e46, r47⟩ := h40; subst e46; exact b_go go_name (fun _ k => by subst k; exact b_σ (σ' := [some vnet, some vticks, some v17, some v42, some v36, o44, o45, none]) rfl (b_new (eo_lst (eal_nil (R := (rLst rInt)))) fun v49 F50 s51 => b_σ (σ' := [some vnet, some vticks, some v17, some v42, some v36, some v49, o45, none]) rfl (b_for (z0 := ()) (Sl := (fun (z : Unit) (F : Hp) (σ : L2.St) => ∃ (u1 : Option V), σ = [some vnet, some vticks, some v17, some v42, some v36, some v49, u1, none])) (ei_lst (ev_var ((rLst (rLst (rLst rInt))).mono ((s27.trans s39).trans s51) r21) rfl)) (fun F121 s122 => ⟨_, rfl⟩) (fun z54 x55 v56 F57 w58 s59 h60 r61 => by obtain ⟨o62, e63⟩ := h60; subst e63; exact b_go go_name (fun _ k => by subst k; exact b_σ (σ' := [some vnet, some vticks, some v17, some v42, some v36, some v49, some v56, none]) rfl (b_ifJ (Sl := (fun (z : Unit) (F : Hp) (σ : L2.St) => σ = [some vnet, some vticks, some v17, some v42, some v36, some v49, some v56, none])) (et_test (ev_niDdO (dLst dInt) (dLst dInt) (ev_op vl_ixL (ev_var r61 rfl) (ev_var (rInt.mono (s51.trans s59) r41) rfl)) rfl (emb_r emb_id))) (b_app rfl (emb_r emb_id) (ev_op vl_ixL (ev_var r61 rfl) (ev_var (rInt.mono (s51.trans s59) r41) rfl)) (b_nx pr_id (fun F71 s72 => rfl))) (b_nx pr_id (fun F75 s76 => rfl)) (fun z77 F78 w79 s80 h81 => by subst h81; exact b_nx pr_id (fun F84 s85 => ⟨_, rfl⟩))))) (fun z86 F87 w88 s89 h90 => by obtain ⟨o91, e92⟩ := h90; subst e92; exact b_ifJ (Sl := (fun (z : (Int × Int)) (F : Hp) (σ : L2.St) => ∃ (u1 : V), σ = [some vnet, some vticks, some v17, some u1, some v36, some v49, o91, none] ∧ (rTh (arC rInt (arOne rInt))).r F u1 z)) (et_test (ev_op vl_gt (ev_cbO vh_len rfl (emb_r emb_id)) (ev_prj (prj_s prj_1) (ev_var ((rTh (arC rInt (arOne rInt))).mono (s51.trans s89) r47) rfl)))) (b_set (ev_tup (by decide) (ea_cons (ev_var (rInt.mono (s51.trans s89) r41) rfl) (ea_one (ev_cbO vh_len rfl (emb_r emb_id))))) fun v101 x102 F103 s104 r105 => b_σ (σ' := [some vnet, some vticks, some v17, some v101, some v36, some v49, o91, none]) rfl (b_nx pr_id (fun F106 s107 => ⟨v101, rfl, ((rTh (arC rInt (arOne rInt))).mono s107 r105)⟩))) (b_nx pr_id (fun F108 s109 => ⟨v42, rfl, ((rTh (arC rInt (arOne rInt))).mono ((s51.trans s89).trans s109) r47)⟩)) (fun z110 F111 w112 s113 h114 => by obtain ⟨v116, e117, r118⟩ := h114; subst e117; exact b_nx (pr_l pr_id) (fun F119 s120 => ⟨v116, _, _, _, rfl, ((rTh (arC rInt (arOne rInt))).mono s120 r118)⟩))) (fun _ _ _ _ s ⟨a0, e⟩ => ⟨a0, e⟩))))) (fun z124 F125 w126 s127 h128 => by obtain ⟨v129, o130, o131, o132, e133, r134⟩ := h128; subst e133; exact b_ret pr_emp (ev_var r134 rfl)) (fun _ _ _ _ s ⟨a0, a1, a2, a3, e, r0⟩ => ⟨a0, a1, a2, a3, e, (rTh (arC rInt (arOne rInt))).mono s r0⟩)))
/-! Pouring -/
abbrev s_Pouring_init : Stmt := inClass (top 6) 0
abbrev s_Pouring_give : Stmt := inClass (top 6) 1
theorem sc_Pouring_init : FnScope ["self", "many"] ["self", "many"] (defScope s_Pouring_init) := ⟨rfl, rfl, rfl, by decide +kernel, rfl, by decide +kernel, by decide +kernel⟩
theorem sc_Pouring_give : FnScope ["self", "target", "amount"] ["self", "target", "amount"] (defScope s_Pouring_give) := ⟨rfl, rfl, rfl, by decide +kernel, rfl, by decide +kernel, by decide +kernel⟩
theorem ok_Pouring_init {f : Addr} {fd : FuncData} (F : Fun K "__init__" "Pouring.__init__" s_Pouring_init f fd) (TP : PourT K C) : FnOk P w K mg base CX0 1 f fd ["self", "many"] (spPourInit C) := by
  refine F.ok sc_Pouring_init (fun vs H Q E h => ?_) (fun cdv A outer s H vs Q E hr h => ⟨tPI K, ?_, pour_init TP h⟩)
  · obtain ⟨p, dx, F, O, n, b, rfl, _⟩ := h; rfl
  · exact pss_cons (ps_fld (pv 0) (pe_op op_rep (pe_lst (pa_cons pe_int pa_nil)) (pv 1)) rfl) (pss_one (ps_fld (pv 0) pe_int rfl))
theorem ok_Pouring_give {f : Addr} {fd : FuncData} (F : Fun K "give" "Pouring.give" s_Pouring_give f fd) (TP : PourT K C) : FnOk P w K mg base CX0 1 f fd ["self", "target", "amount"] (spPourGive C) := by
  refine F.ok sc_Pouring_give (fun vs H Q E h => ?_) (fun cdv A outer s H vs Q E hr h => ⟨tPG K, ?_, pour_give TP h⟩)
  · obtain ⟨i, F, O, c, x, s, b, s1, ⟨_, _, rfl, _, ⟨_, _, rfl, _, ⟨_, rfl, _⟩⟩⟩, _⟩ := h; rfl
  · exact pss_one (ps_if (pt_cmpR op_isN (pv 1) pe_non (nomark _)) (pss_one (ps_fldaug (pv 0) (pv 2) in_add)) (pss_one (ps_augS (kpe_fld (K := K) (pv 0)) (pv 1) (kpget_list (K := K)) (pv 2) ip_add set_list)))
/-! law -/
abbrev s_law : Stmt := top 28
abbrev N_law : List Str := ["script", "tape", "net", "ticks", "some", "rows", "counts", "number", "found", "told", "k", "agree", "fast", "one", "row"]
theorem sc_law : FnScope N_law ["script"] (defScope s_law) := ⟨rfl, rfl, rfl, by decide +kernel, rfl, by decide +kernel, by decide +kernel⟩
def m_law : M Tape Bool := bnd (bnd (bnd (ret ()) fun a18 => bnd (bnd (bnd (bnd (bnd (ret (4 : Int)) fun a3 => bnd (bnd (ret (12 : Int)) fun a1 => bnd (ret []) fun b2 => ret (a1 :: b2)) fun b4 => ret (a3 :: b4)) fun a5 => lft (few a5)) fun a9 => bnd (bnd (bnd (ret ()) fun a6 => bnd (ret (2 : Int)) fun b7 => ret (a6, b7)) fun a8 => zm (fun s => s) (fun s t => t) (m_law_draw a8.2)) fun b10 => lft (atI a9 b10)) fun a16 => bnd (bnd (bnd (bnd (ret ()) fun a11 => bnd (ret (3 : Int)) fun b12 => ret (a11, b12)) fun a13 => zm (fun s => s) (fun s t => t) (m_law_draw a13.2)) fun a14 => bnd (ret (0 : Int)) fun b15 => lft (some (decide (b15 < a14)))) fun b17 => ret (a16, b17)) fun b19 => ret (a18, b19)) fun a20 => zm (fun s => s) (fun s t => t) (m_law_net a20.2.1 a20.2.2)) fun x22 => bnd (bnd (ret (1 : Int)) fun a58 => bnd (bnd (bnd (bnd (bnd (bnd (ret ()) fun a35 => bnd (ret (40 : Int)) fun b36 => ret (a35, b36)) fun a37 => zm (fun s => s) (fun s t => t) (m_law_draw a37.2)) fun a48 => bnd (bnd (bnd (bnd (ret ()) fun a38 => bnd (ret (200 : Int)) fun b39 => ret (a38, b39)) fun a40 => zm (fun s => s) (fun s t => t) (m_law_draw a40.2)) fun a46 => bnd (bnd (bnd (bnd (ret ()) fun a41 => bnd (ret (500 : Int)) fun b42 => ret (a41, b42)) fun a43 => zm (fun s => s) (fun s t => t) (m_law_draw a43.2)) fun a44 => bnd (ret []) fun b45 => ret (a44 :: b45)) fun b47 => ret (a46 :: b47)) fun b49 => ret (a48 :: b49)) fun a50 => lft (few a50)) fun a56 => bnd (bnd (bnd (bnd (ret ()) fun a51 => bnd (ret (8 : Int)) fun b52 => ret (a51, b52)) fun a53 => zm (fun s => s) (fun s t => t) (m_law_draw a53.2)) fun a54 => bnd (ret (3 : Int)) fun b55 => lft (divI a54 b55)) fun b57 => lft (atI a56 b57)) fun b59 => lft (some (a58 + b59))) fun x61 => bnd (bnd (bnd (bnd (ret (none : (Option Int))) fun a68 => bnd (ret []) fun b69 => ret (a68 :: b69)) fun a70 => lft (few a70)) fun a75 => bnd (bnd (bnd (bnd (bnd (ret x22) fun a71 => ret a71.1) fun a72 => lft (some (a72.length : Int))) fun a73 => lft (rngS a73)) fun x74 => lft ((fun x => some (x.map some) : (List Int) → Option (List (Option Int))) x74)) fun b76 => lft (catL a75 b76)) fun x78 => bnd (bnd (ret x78) fun q95 => bnd (lft (chk q95)) fun q96 => mp (fun x83 => bnd (bnd (ret x22) fun a91 => bnd (bnd (ret x61) fun a89 => bnd (ret x83) fun b90 => ret (a89, b90)) fun b92 => ret (a91, b92)) fun a93 => lft (m_law_tips a93.1 a93.2.1 a93.2.2)) q96) fun x98 => bnd (bnd (ret ([] : List Int)) fun a102 => lft (few a102)) (nw (bnd (bnd (bnd (bnd (ret x22) fun a106 => ret a106.1) fun a107 => lft (some (a107.length : Int))) fun a108 => lft (rng 0 a108)) fun q275 => bnd (fd (fun z111 x112 => bnd (bnd (bnd (ret x98) fun q132 => bnd (lft (chk q132)) fun q133 => mp (fun x122 => bnd (bnd (ret x122) fun a128 => bnd (ret x112) fun b129 => lft (atI a128 b129)) fun a130 => lft (some a130)) q133) fun a134 => lft (nDist a134)) fun a137 => bnd (upL (fun s => s.2) (fun s t => (s.1, t)) fun b138 => app b138 a137) fun _ => fun s => some ((), s)) () q275) fun z139 => fzL (fun s => s.2) (fun s => s.1) fun x146 => bnd (bnd (bnd (ret x22) fun a150 => bnd (ret x61) fun b151 => ret (a150, b151)) fun a152 => lft (m_best_watch a152.1 a152.2)) fun x154 => bnd (bnd (bnd (bnd (bnd (ret x154) fun a158 => bnd (ret ()) fun b159 => ret (a158, b159)) fun a160 => lft (some true)) fun b161 => ret (!b161)) fun b170 => bif b170 then ret true else (bnd (ret x154) fun a168 => bnd (bnd (bnd (ret x146) fun a163 => bnd (bnd (ret x146) fun a162 => lft (a162.max?)) fun b164 => lft (idxO a163 b164)) fun a166 => bnd (bnd (ret x146) fun a165 => lft (a165.max?)) fun b167 => ret (a166, b167)) fun b169 => lft (neD ((dTh (daC dInt (daOne dInt))).d a168) ((dTh (daC dInt (daOne dInt))).d b169)))) fun b171 => bif b171 then (bnd (ret false) fun x172 s => some (x172, s)) else (bnd (bnd (ret true) fun a187 => bnd (bnd (bnd (ret x154) fun x173 => lft ((fun x => some [x.1, x.2] : (Int × Int) → Option (List Int)) x173)) fun q185 => bnd (lft (chk q185)) fun q186 => mp (fun x175 => bnd (bnd (ret x175) fun a181 => bnd (ret ()) fun b182 => ret (a181, b182)) fun a183 => lft (some false)) q186) fun b188 => lft (some (b188.any fun b => decide (b = a187)))) fun b189 => bif b189 then (bnd (ret false) fun x190 s => some (x190, s)) else (bnd (bnd (ret ([] : List (List (Option Int)))) fun a191 => lft (few a191)) (nw (bnd (bnd (ret x61) fun a195 => bnd (ret (200 : Int)) fun b196 => lft (some (decide (b196 < a195)))) fun b197 => bif b197 then (bnd (ret true) fun x198 s => some (x198, s.1)) else (bnd (bnd (bnd (ret x78) fun a199 => lft (some (a199.length : Int))) fun a200 => lft (rng 0 a200)) fun q272 => fthn (fdE (fun z203 x204 => bnd (bnd (bnd (ret x22) fun a225 => bnd (bnd (bnd (ret x154) fun a214 => ret a214.1) fun a223 => bnd (bnd (ret x61) fun a221 => bnd (bnd (bnd (bnd (ret x98) fun a215 => bnd (ret x204) fun b216 => lft (atI a215 b216)) fun a218 => bnd (bnd (ret x154) fun a217 => ret a217.1) fun b219 => lft (atI a218 b219)) fun a220 => lft (some a220)) fun b222 => ret (a221, b222)) fun b224 => ret (a223, b224)) fun b226 => ret (a225, b226)) fun a227 => lft (okO ((m_cases a227.1 a227.2.1 a227.2.2.1 a227.2.2.2)))) fun x229 => bnd (bnd (bnd (ret x78) fun a233 => bnd (ret x204) fun b234 => lft (atI a233 b234)) fun a235 => bnd (ret x229) fun b236 => lft (some (!b236.any fun b => decide (b = a235)))) fun b237 => bif b237 then rtF (bnd (ret false) fun x238 s => some (x238, s.1)) else (bnd (bnd (bnd (ret x229) fun a239 => gtL (fun s => s.2) fun d240 => (inDd ((dLst (dOpt dInt)).d a239) (d240.map (dLst (dOpt dInt)).d)).map (!·)) fun b241 => bif b241 then (bnd (ret x229) fun a244 => bnd (upL (fun s => s.2) (fun s t => (s.1, t)) fun b245 => app b245 a244) fun _ => fun s => some ((), s)) else (fun s => some ((), s))) fun z248 => fun s => some (.nx ((), s)))) () q272) fun z257 => bnd (bnd (gtL (fun s => s.2) fun a265 => some (a265.length : Int)) fun a267 => bnd (bnd (ret x154) fun a266 => ret a266.2) fun b268 => lft (some (decide (a267 = b268)))) fun x269 s => some (x269, s.1))))))))
theorem ok_law {f : Addr} {fd : FuncData} (F : Fun K "law" "law" s_law f fd) (T : Txt K mg) (c_law_net : Kn P w K mg base CX0 4 "_law_net" ["tape", "most", "small"] sp_law_net) (c_law_draw : Kn P w K mg base CX0 1 "_law_draw" ["tape", "many"] sp_law_draw) (c_law_tips : Kn P w K mg base CX0 4 "_law_tips" ["net", "ticks", "fast"] sp_law_tips) (c_best_watch : Kn P w K mg base CX0 5 "best_watch" ["net", "ticks"] sp_best_watch) (c_cases : Kn P w K mg base (L2.CX P w) 5 "cases" ["net", "watched", "ticks", "seen"] (sp_cases K)) (hL : ∀ ns : List Int, ns.length ≤ 63 → ∃ s1, m_law (ns, 0, 0) = some (true, s1)) : FnOk P w K mg base CX0 6 f fd ["script"] (spLaw K) := by
  refine F.ok sc_law (fun vs H Q E h => ?_) (fun cdv A outer s H vs Q E hr h => ?_)
  · obtain ⟨a, ns, rfl, _⟩ := h; rfl
  · obtain ⟨a, ns, rfl, hS, hn, hQ⟩ := h
    obtain ⟨s1, hm⟩ := hL ns hn
    refine ⟨_, (pss_cons (ps_set (i := 1) sc_law.nd rfl (Or.inl rfl) (pe_lst (pa_cons (pe_callTy (kc_list (K := K)) (by rfl) T.list (by decide +kernel) (pa_cons (pv 0) pa_nil)) (pa_cons pe_int (pa_cons pe_int pa_nil))))) (pss_cons (ps_set (i := 2) sc_law.nd rfl (Or.inr rfl) (pe_kn c_law_net hr (by decide) (by rfl) (pa_cons (pv 1) (pa_cons (pe_ix (kix_list (K := K)) (pe_lst (pa_cons pe_int (pa_cons pe_int pa_nil))) (pe_kn c_law_draw hr (by decide) (by rfl) (pa_cons (pv 1) (pa_cons pe_int pa_nil))) (fun _ _ => rfl)) (pa_cons (pe_cmpR op_gt (pe_kn c_law_draw hr (by decide) (by rfl) (pa_cons (pv 1) (pa_cons pe_int pa_nil))) pe_int (nomark _)) pa_nil))))) (pss_cons (ps_set (i := 3) sc_law.nd rfl (Or.inr rfl) (pe_op op_add pe_int (pe_ix (kix_list (K := K)) (pe_lst (pa_cons (pe_kn c_law_draw hr (by decide) (by rfl) (pa_cons (pv 1) (pa_cons pe_int pa_nil))) (pa_cons (pe_kn c_law_draw hr (by decide) (by rfl) (pa_cons (pv 1) (pa_cons pe_int pa_nil))) (pa_cons (pe_kn c_law_draw hr (by decide) (by rfl) (pa_cons (pv 1) (pa_cons pe_int pa_nil))) pa_nil)))) (pe_op op_fdivW (pe_kn c_law_draw hr (by decide) (by rfl) (pa_cons (pv 1) (pa_cons pe_int pa_nil))) pe_int) (fun _ _ => rfl)))) (pss_cons (ps_set (i := 4) sc_law.nd rfl (Or.inl rfl) (pe_op op_cat (pe_lst (pa_cons pe_non pa_nil)) (pe_listRg (by rfl) (by rfl) T.list (prg_1 (by rfl) T.range (pe_callB (kc_len (K := K)) (by rfl) T.len (by decide +kernel) (pa_cons (pe_ix (kix_tup (K := K)) (pv 2) pe_int (fun _ _ => rfl)) pa_nil)))))) (pss_cons (ps_setLc (i := 5) (g := (gName 12)) (tt := tYes) (by rfl) sc_law.nd rfl rfl (sw_true rfl rfl rfl (by decide +kernel)) (kpi_list (K := K) (pv 4)) (blkOk_by (N := N_law) (sc := defScope s_law) (own := [("fast", 12)]) (by decide +kernel)) (fun _ _ _ _ _ => (pg_name (i := 12) sc_law.nd rfl (by first | exact Or.inl rfl | exact Or.inr rfl))) (fun _ _ _ _ _ => pts_nil) (fun _ _ _ _ _ => (pe_kn c_law_tips hr (by decide) (by rfl) (pa_cons (pv 2) (pa_cons (pv 3) (pa_cons (pv 12) pa_nil)))))) (pss_cons (ps_set (i := 6) sc_law.nd rfl (Or.inl rfl) (pe_lst pa_nil)) (pss_cons (ps_for PassesOwn.never (by rfl) (pi_range1 (by rfl) T.range (pa_cons (pe_callB (kc_len (K := K)) (by rfl) T.len (by decide +kernel) (pa_cons (pe_ix (kix_tup (K := K)) (pv 2) pe_int (fun _ _ => rfl)) pa_nil)) pa_nil)) (pg_name (i := 7) sc_law.nd rfl (by first | exact Or.inl rfl | exact Or.inr rfl)) (pss_cons (ps_expr (kpe_bm (K := K) PySem.F.plainAttrs_list PySem.F.slot_list_append PySem.F.type_list_append mt_append (pv 6) (pa_cons (pe_lenSetT hr.units (by rfl) (by rfl) T.len (by rfl) T.set (pe_lc (g := (gName 14)) (tt := tYes) (by rfl) sc_law.nd (kpi_list (K := K) (pv 5)) (blkOk_by (N := N_law) (sc := defScope s_law) (own := [("row", 14)]) (by decide +kernel)) (fun _ _ _ _ _ => (pg_name (i := 14) sc_law.nd rfl (by first | exact Or.inl rfl | exact Or.inr rfl))) (fun _ _ _ _ _ => pts_nil) (fun _ _ _ _ _ => (pe_callTy (kc_tuple (K := K)) (by rfl) T.tuple (by decide +kernel) (pa_cons (pe_ix (kix_list (K := K)) (pv 14) (pv 7) (fun _ _ => rfl)) pa_nil))))) pa_nil))) pss_nil)) (pss_cons (ps_set (i := 8) sc_law.nd rfl (Or.inl rfl) (pe_kn c_best_watch hr (by decide) (by rfl) (pa_cons (pv 2) (pa_cons (pv 3) pa_nil)))) (pss_cons (ps_if (PW.pt (pw_or (pt_not (pt_val (pe_callB (kc_isi (K := K)) (by rfl) T.isinstance (by decide +kernel) (pa_cons (pv 8) (pa_cons (pe_bltn (v := .ty "tuple") (by rfl) T.tuple (by decide +kernel) rfl) pa_nil))))) (pw_or1 (pt_cmpR (kop_neD (K := K) hr.units) (pv 8) (pe_tup (pa_cons (kpe_bmR (K := K) PySem.F.plainAttrs_list PySem.F.slot_list_index PySem.F.type_list_index mt_indexM (pv 6) (pa_cons (pe_callB (kc_max (K := K) (by rfl)) (by rfl) T.max (by decide +kernel) (pa_cons (pv 6) pa_nil)) pa_nil)) (pa_cons (pe_callB (kc_max (K := K) (by rfl)) (by rfl) T.max (by decide +kernel) (pa_cons (pv 6) pa_nil)) pa_nil))) (nomark _))))) (pss_cons (ps_ret pe_bl) pss_nil) pss_nil) (pss_cons (ps_if (pt_cmpR (kop_in (K := K)) pe_bl (pe_lc (g := (gName 13)) (tt := tYes) (by rfl) sc_law.nd (kpi_tup (K := K) (pv 8)) (blkOk_by (N := N_law) (sc := defScope s_law) (own := [("one", 13)]) (by decide +kernel)) (fun _ _ _ _ _ => (pg_name (i := 13) sc_law.nd rfl (by first | exact Or.inl rfl | exact Or.inr rfl))) (fun _ _ _ _ _ => pts_nil) (fun _ _ _ _ _ => (pe_callB (kc_isi (K := K)) (by rfl) T.isinstance (by decide +kernel) (pa_cons (pv 13) (pa_cons (pe_bltn (v := .ty "bool") (by rfl) T.bool (by decide +kernel) rfl) pa_nil))))) (by rfl)) (pss_cons (ps_ret pe_bl) pss_nil) pss_nil) (pss_cons (ps_set (i := 9) sc_law.nd rfl (Or.inl rfl) (pe_lst pa_nil)) (pss_cons (ps_if (pt_cmpR op_gt (pv 3) pe_int (nomark _)) (pss_cons (ps_ret pe_bl) pss_nil) pss_nil) (pss_cons (ps_for PassesOwn.never (by rfl) (pi_range1 (by rfl) T.range (pa_cons (pe_callB (kc_len (K := K)) (by rfl) T.len (by decide +kernel) (pa_cons (pv 4) pa_nil)) pa_nil)) (pg_name (i := 10) sc_law.nd rfl (by first | exact Or.inl rfl | exact Or.inr rfl)) (pss_cons (ps_set (i := 11) sc_law.nd rfl (Or.inl rfl) (pe_knL c_cases hr (by decide) (by rfl) (pa_cons (pv 2) (pa_cons (pe_ix (kix_tup (K := K)) (pv 8) pe_int (fun _ _ => rfl)) (pa_cons (pv 3) (pa_cons (pe_callTy (kc_list (K := K)) (by rfl) T.list (by decide +kernel) (pa_cons (pe_ix (kix_list (K := K)) (pe_ix (kix_list (K := K)) (pv 5) (pv 10) (fun _ _ => rfl)) (pe_ix (kix_tup (K := K)) (pv 8) pe_int (fun _ _ => rfl)) (fun _ _ => rfl)) pa_nil)) pa_nil)))))) (pss_cons (ps_if (pt_cmpR (kop_notIn (K := K)) (pe_ix (kix_list (K := K)) (pv 4) (pv 10) (fun _ _ => rfl)) (pv 11) (by rfl)) (pss_cons (ps_ret pe_bl) pss_nil) pss_nil) (Evl.pss_cut (ps_if (pt_cmpR (kop_niDd (K := K) hr.units65) (pv 11) (pv 9) (by rfl)) (pss_cons (ps_expr (kpe_bm (K := K) PySem.F.plainAttrs_list PySem.F.slot_list_append PySem.F.type_list_append mt_append (pv 9) (pa_cons (pv 11) pa_nil))) pss_nil) pss_nil) pss_nil)))) (pss_cons (ps_ret (pe_cmpR op_eq (pe_callB (kc_len (K := K)) (by rfl) T.len (by decide +kernel) (pa_cons (pv 9) pa_nil)) (pe_ix (kix_tup (K := K)) (pv 8) pe_int (fun _ _ => rfl)) (nomark _))) pss_nil)))))))))))))), ?_⟩
    refine law_start (i := 1) (R := rBool) rfl hS hm (fun vtape F => ?_) (fun v F1 H1 r => by rw [show v = .bl true from r]; exact hQ H1)
    show B _ [some (V.ref a), some vtape, none, none, none, none, none, none, none, none, none, none, none, none, none] F (oLh tapeA vtape) _ _
    exact b_set (ev_callS vtape emb_id (ea_cons (ev_var (R := rV vtape) (x := ()) rfl rfl) (ea_cons (ev_op vl_ixL (ev_frz (eo_lst (eal_cons ev_int (eal_cons ev_int eal_nil)))) (ev_callS vtape emb_id (ea_cons (ev_var (R := rV vtape) (x := ()) rfl rfl) (ea_one ev_int)))) (ea_one (ev_op vl_gt (ev_callS vtape emb_id (ea_cons (ev_var (R := rV vtape) (x := ()) rfl rfl) (ea_one ev_int))) ev_int))))) fun v21 x22 F23 s24 r25 => b_σ (σ' := [some (V.ref a), some vtape, some v21, none, none, none, none, none, none, none, none, none, none, none, none]) rfl (b_set (ev_op vl_add ev_int (ev_op vl_ixL (ev_frz (eo_lst (eal_cons (ev_callS vtape emb_id (ea_cons (ev_var (R := rV vtape) (x := ()) rfl rfl) (ea_one ev_int))) (eal_cons (ev_callS vtape emb_id (ea_cons (ev_var (R := rV vtape) (x := ()) rfl rfl) (ea_one ev_int))) (eal_cons (ev_callS vtape emb_id (ea_cons (ev_var (R := rV vtape) (x := ()) rfl rfl) (ea_one ev_int))) eal_nil))))) (ev_op vl_div (ev_callS vtape emb_id (ea_cons (ev_var (R := rV vtape) (x := ()) rfl rfl) (ea_one ev_int))) ev_int))) fun v60 x61 F62 s63 r64 => b_σ (σ' := [some (V.ref a), some vtape, some v21, some v60, none, none, none, none, none, none, none, none, none, none, none]) rfl (b_set (ev_frz (eo_op vo_cat (ev_frz (eo_lst (eal_cons (ev_nonO (R := rInt)) eal_nil))) (ev_cvP cvp_lopt (ev_frz (eo_listRg (ev_cb vl_lenT (ea_one (ev_prj prj_0 (ev_var (rNet.mono s63 r25) rfl))))))))) fun v77 x78 F79 s80 r81 => b_σ (σ' := [some (V.ref a), some vtape, some v21, some v60, some v77, none, none, none, none, none, none, none, none, none, none]) rfl (b_set (ev_frz (eo_lcA (ei_lst (ev_var r81 rfl)) (fun v82 x83 F84 s85 r86 => cb_all go_name (fun w87 k88 => by subst k88; exact wipe_s _ _ (by decide) (wipe_w _ _)) (fun w87 k88 => by subst k88; exact ev_σ (σ' := [some (V.ref a), some vtape, some v21, some v60, some v77, none, none, none, none, none, none, none, some v82, none, none]) rfl (ev_callP (ea_cons (ev_var (rNet.mono ((s63.trans s80).trans s85) r25) rfl) (ea_cons (ev_var (rInt.mono (s80.trans s85) r64) rfl) (ea_one (ev_var r86 rfl))))))))) fun v97 x98 F99 s100 r101 => b_σ (σ' := [some (V.ref a), some vtape, some v21, some v60, some v77, some v97, none, none, none, none, none, none, none, none, none]) rfl (b_new (eo_lst (eal_nil (R := rInt))) fun v103 F104 s105 => b_σ (σ' := [some (V.ref a), some vtape, some v21, some v60, some v77, some v97, some v103, none, none, none, none, none, none, none, none]) rfl (b_for (z0 := ()) (Sl := (fun (z : Unit) (F : Hp) (σ : L2.St) => ∃ (u1 : Option V), σ = [some (V.ref a), some vtape, some v21, some v60, some v77, some v97, some v103, u1, none, none, none, none, none, none, none])) (ei_rng1 (ev_cb vl_lenT (ea_one (ev_prj prj_0 (ev_var (rNet.mono (((s63.trans s80).trans s100).trans s105) r25) rfl))))) (fun F273 s274 => ⟨_, rfl⟩) (fun z111 x112 v113 F114 w115 s116 h117 r118 => by obtain ⟨o119, e120⟩ := h117; subst e120; exact b_go go_name (fun _ k => by subst k; exact b_σ (σ' := [some (V.ref a), some vtape, some v21, some v60, some v77, some v97, some v103, some v113, none, none, none, none, none, none, none]) rfl (b_app rfl (emb_r emb_id) (ev_lenSetT (ev_frz (eo_lcA (ei_lst (ev_var ((rLst (rLst (rLst rInt))).mono (s105.trans s116) r101) rfl)) (fun v121 x122 F123 s124 r125 => cb_all go_name (fun w126 k127 => by subst k127; exact wipe_s _ _ (by decide) (wipe_w _ _)) (fun w126 k127 => by subst k127; exact ev_σ (σ' := [some (V.ref a), some vtape, some v21, some v60, some v77, some v97, some v103, some v113, none, none, none, none, none, none, some v121]) rfl (ev_cb vl_tupleL (ea_one (ev_op vl_ixL (ev_var r125 rfl) (ev_var (rInt.mono s124 r118) rfl))))))))) (b_nx pr_id (fun F135 s136 => ⟨_, rfl⟩))))) (fun z139 F140 w141 s142 h143 => by obtain ⟨o144, e145⟩ := h143; subst e145; exact b_fzL rm_r fun x146 F147 s148 r149 => b_set (ev_callP (ea_cons (ev_var (rNet.mono (((((s63.trans s80).trans s100).trans s105).trans s142).trans s148) r25) rfl) (ea_one (ev_var (rInt.mono ((((s80.trans s100).trans s105).trans s142).trans s148) r64) rfl)))) fun v153 x154 F155 s156 r157 => b_σ (σ' := [some (V.ref a), some vtape, some v21, some v60, some v77, some v97, some v103, o144, some v153, none, none, none, none, none, none]) rfl (b_ifR (et_or (et_not (et_B (ev_cb (vl_isi (bb := true) isi_tuple ) (ea_cons (ev_var r157 rfl) (ea_one (ev_ty (n := "tuple"))))))) (et_test (ev_op (vl_neD (dTh (daC dInt (daOne dInt))) (dTh (daC dInt (daOne dInt)))) (ev_var r157 rfl) (ev_tup (by decide) (ea_cons (ev_indexI (ev_var ((rLst rInt).mono s156 r149) rfl) (ev_cb vl_maxL (ea_one (ev_var ((rLst rInt).mono s156 r149) rfl)))) (ea_one (ev_cb vl_maxL (ea_one (ev_var ((rLst rInt).mono s156 r149) rfl))))))))) (b_ret pr_id ev_bl) (b_ifR (et_test (ev_op vl_inBL ev_bl (ev_frz (eo_lcA (ei_tup (ev_cvP cvp_same2 (ev_var r157 rfl))) (fun v174 x175 F176 s177 r178 => cb_all go_name (fun w179 k180 => by subst k180; exact wipe_s _ _ (by decide) (wipe_w _ _)) (fun w179 k180 => by subst k180; exact ev_σ (σ' := [some (V.ref a), some vtape, some v21, some v60, some v77, some v97, some v103, o144, some v153, none, none, none, none, some v174, none]) rfl (ev_cb (vl_isi (bb := false) isi_int ) (ea_cons (ev_var r178 rfl) (ea_one (ev_ty (n := "bool"))))))))))) (b_ret pr_id ev_bl) (b_new (eo_lst (eal_nil (R := (rLst (rOpt rInt))))) fun v192 F193 s194 => b_σ (σ' := [some (V.ref a), some vtape, some v21, some v60, some v77, some v97, some v103, o144, some v153, some v192, none, none, none, none, none]) rfl (b_ifR (et_test (ev_op vl_gt (ev_var (rInt.mono ((((((s80.trans s100).trans s105).trans s142).trans s148).trans s156).trans s194) r64) rfl) ev_int)) (b_ret (pr_l pr_id) ev_bl) (b_forE (z0 := ()) (Sl := (fun (z : Unit) (F : Hp) (σ : L2.St) => ∃ (u1 : Option V) (u2 : Option V), σ = [some (V.ref a), some vtape, some v21, some v60, some v77, some v97, some v103, o144, some v153, some v192, u1, u2, none, none, none])) (ei_rng1 (ev_cb vl_lenL (ea_one (ev_var ((rLst (rOpt rInt)).mono (((((s100.trans s105).trans s142).trans s148).trans s156).trans s194) r81) rfl)))) (fun F270 s271 => ⟨_, _, rfl⟩) (fun z203 x204 v205 F206 w207 s208 h209 r210 => by obtain ⟨o211, o212, e213⟩ := h209; subst e213; exact b_go go_name (fun _ k => by subst k; exact b_σ (σ' := [some (V.ref a), some vtape, some v21, some v60, some v77, some v97, some v103, o144, some v153, some v192, some v205, o212, none, none, none]) rfl (b_set (ev_callPX (ea_cons (ev_var (rNet.mono ((((((((s63.trans s80).trans s100).trans s105).trans s142).trans s148).trans s156).trans s194).trans s208) r25) rfl) (ea_cons (ev_prj prj_0 (ev_var ((rTh (arC rInt (arOne rInt))).mono (s194.trans s208) r157) rfl)) (ea_cons (ev_var (rInt.mono (((((((s80.trans s100).trans s105).trans s142).trans s148).trans s156).trans s194).trans s208) r64) rfl) (ea_one (ev_frz (eo_cb vo_listL (ea_one (ev_op vl_ixL (ev_op vl_ixL (ev_var ((rLst (rLst (rLst rInt))).mono (((((s105.trans s142).trans s148).trans s156).trans s194).trans s208) r101) rfl) (ev_var r210 rfl)) (ev_prj prj_0 (ev_var ((rTh (arC rInt (arOne rInt))).mono (s194.trans s208) r157) rfl))))))))))) fun v228 x229 F230 s231 r232 => b_σ (σ' := [some (V.ref a), some vtape, some v21, some v60, some v77, some v97, some v103, o144, some v153, some v192, some v205, some v228, none, none, none]) rfl (b_ifRF (et_test (ev_op vl_niOL (ev_op vl_ixL (ev_var ((rLst (rOpt rInt)).mono (((((((s100.trans s105).trans s142).trans s148).trans s156).trans s194).trans s208).trans s231) r81) rfl) (ev_var (rInt.mono s231 r210) rfl)) (ev_var r232 rfl))) (b_ret (pr_l pr_id) ev_bl) (b_ifJ (Sl := (fun (z : Unit) (F : Hp) (σ : L2.St) => σ = [some (V.ref a), some vtape, some v21, some v60, some v77, some v97, some v103, o144, some v153, some v192, some v205, some v228, none, none, none])) (et_test (ev_niDdO (dLst (dOpt dInt)) (dLst (dOpt dInt)) (ev_var r232 rfl) rfl (emb_r emb_id))) (b_app rfl (emb_r emb_id) (ev_var r232 rfl) (b_nx pr_id (fun F242 s243 => rfl))) (b_nx pr_id (fun F246 s247 => rfl)) (fun z248 F249 w250 s251 h252 => by subst h252; exact b_nxF pr_id (fun F255 s256 => ⟨_, _, rfl⟩))))))) (fun z257 F258 w259 s260 h261 => by obtain ⟨o262, o263, e264⟩ := h261; subst e264; exact b_ret (pr_l pr_id) (ev_op vl_eqI (ev_cbO vh_len rfl (emb_r emb_id)) (ev_prj (prj_s prj_1) (ev_var ((rTh (arC rInt (arOne rInt))).mono (s194.trans s260) r157) rfl)))) (fun _ _ _ _ s ⟨a0, a1, e⟩ => ⟨a0, a1, e⟩))))))) (fun _ _ _ _ s ⟨a0, e⟩ => ⟨a0, e⟩))))))
end
end Law

namespace Law
open PySem L2 T
/-! the tape, and what nets are drawn -/
theorem drawL {many : Int} (h : 0 < many) (h2 : many.natAbs.log2 < 9000) (s : Tape) : Tot (m_law_draw many) s (fun w => 0 ≤ w.1 ∧ w.1 < many) := by
  have hm := fun i => modI_ok (i := i) h
  have hd : ∀ i, divI i many = some (i / many) := fun i => if_pos ⟨h, h2⟩
  have hP : (0 : Int) < 2305843009213693951 := by decide
  have hp := fun i => modI_ok (i := i) hP
  have h3 := fun j => mulI_ok (i := 1000003) (j := j) (Or.inl (by decide))
  have h4 := fun j => mulI_ok (i := 1181783497276652981) (j := j) (Or.inl (by decide))
  have h5 : powI 10 18 = some (10 ^ 18) := by decide
  have h6 := fun i : Int => mulI_ok (i := i % 2305843009213693951) (j := i % 2305843009213693951) (Or.inl ⟨by omega, by omega⟩)
  unfold m_law_draw
  rw [tot_bnd, tot_ret]
  refine tot_cut (fun _ => True) ?_ fun _ s1 _ => ?_
  · rw [tot_bnd]
    simp only [tot_bnd, tot_ret, tot_gtLS, tot_lft, ex_some]
    rw [tot_bif]
    refine ⟨fun _ => ?_, fun _ => ⟨_, rfl, trivial⟩⟩
    rw [tot_bnd, tot_ret]
    refine tot_cut (fun _ => True) ?_ fun c s2 _ => ?_
    · simp only [tot_bnd, tot_ret, tot_zm, tot_nw, tot_rb, tot_fzL, tot_drL, tot_gtLS, tot_upLS, tot_lft, tot_gtL, tot_upL, tot_bif, tot_some, tot_rtF, ex_some, ex_someT, and_true, true_and, implies_true, few0, few1, few2, few3, tot_zmI, tot_wp, tot_psh, tot_pshL, tot_gtI, tot_upI, tot_bndX, tot_tryM, tot_tryO, tot_tryR]
      intro hl
      have hl2 : (0 : Int) < s.1.length := of_decide_eq_true hl
      rw [modI_ok hl2]
      simp only [ex_some]
      obtain ⟨b, hb, _⟩ := atI_ok (xs := s.1) (i := s.2.1 % s.1.length) (Int.emod_nonneg _ (by omega)) (Int.emod_lt_of_pos _ hl2)
      exact ⟨b, hb⟩
    · refine tot_cut (fun _ => True) ?_ fun c2 s3 _ => ?_
      · refine tot_cut (fun _ => True) ?_ fun c4 s4 _ => ?_
        · simp only [tot_bnd, tot_ret, tot_zm, tot_nw, tot_rb, tot_fzL, tot_drL, tot_gtLS, tot_upLS, tot_lft, tot_gtL, tot_upL, tot_bif, tot_some, tot_rtF, ex_some, ex_someT, and_true, true_and, implies_true, few0, few1, few2, few3, tot_zmI, tot_wp, tot_psh, tot_pshL, tot_gtI, tot_upI, tot_bndX, tot_tryM, tot_tryO, tot_tryR, h5]
        · simp only [tot_bnd, tot_ret, tot_zm, tot_nw, tot_rb, tot_fzL, tot_drL, tot_gtLS, tot_upLS, tot_lft, tot_gtL, tot_upL, tot_bif, tot_some, tot_rtF, ex_some, ex_someT, and_true, true_and, implies_true, few0, few1, few2, few3, tot_zmI, tot_wp, tot_psh, tot_pshL, tot_gtI, tot_upI, tot_bndX, tot_tryM, tot_tryO, tot_tryR, h3, h4, hp, h6]
      · simp only [tot_bnd, tot_ret, tot_zm, tot_nw, tot_rb, tot_fzL, tot_drL, tot_gtLS, tot_upLS, tot_lft, tot_gtL, tot_upL, tot_bif, tot_some, tot_rtF, ex_some, ex_someT, and_true, true_and, implies_true, few0, few1, few2, few3, tot_zmI, tot_wp, tot_psh, tot_pshL, tot_gtI, tot_upI, tot_bndX, tot_tryM, tot_tryO, tot_tryR]
  · simp only [tot_bnd, tot_ret, tot_zm, tot_nw, tot_rb, tot_fzL, tot_drL, tot_gtLS, tot_upLS, tot_lft, tot_gtL, tot_upL, tot_bif, tot_some, tot_rtF, ex_some, ex_someT, and_true, true_and, implies_true, few0, few1, few2, few3, tot_zmI, tot_wp, tot_psh, tot_pshL, tot_gtI, tot_upI, tot_bndX, tot_tryM, tot_tryO, tot_tryR, hm, hd]
    exact ⟨Int.emod_nonneg _ (by omega), Int.emod_lt_of_pos _ h⟩
theorem draw {many : Int} (h : 0 < many) (h2 : many < 2 ^ 64) (s : Tape) : Tot (m_law_draw many) s (fun w => 0 ≤ w.1 ∧ w.1 < many) := drawL h (log2_lt h h2) s
def OutOk (n : Int) (o : Out) : Prop := (∀ t, o.1 = some t → 0 ≤ t ∧ t < n) ∧ 1 ≤ o.2 ∧ o.2 ≤ 60
def ActOk (m : Int) (a : Act) : Prop := (a.1 = "open" ∨ a.1 = "shut" ∨ a.1 = "turn") ∧ 0 ≤ a.2 ∧ a.2 < m
structure VesOk (k n m : Int) (v : Vessel) : Prop where
  size : 1 ≤ v.1
  size2 : v.1 ≤ 60
  brim : v.1 ≤ v.2.1
  brim2 : v.2.1 ≤ 200
  outs : ∀ o ∈ v.2.2.1, OutOk n o
  outs1 : 1 ≤ v.2.2.1.length
  outs3 : v.2.2.1.length ≤ 3
  spill : ∀ t, v.2.2.2.2.1 = some t → k < t ∧ t < n
  acts : ∀ a ∈ v.2.2.2.2.2, ActOk m a
  acts3 : v.2.2.2.2.2.length ≤ 3
structure NetOk (net : Net) : Prop where
  n1 : 1 ≤ net.1.length
  n2 : net.1.length ≤ 90
  m2 : net.2.length ≤ 90
  ves : ∀ (k : Nat) v, net.1[k]? = some v → VesOk k net.1.length net.2.length v
  spo : ∀ p ∈ net.2, 0 ≤ p.1 ∧ p.1 < net.1.length ∧ 0 ≤ p.2.1 ∧ p.2.1 ≤ 60
theorem intB_lt (b : Bool) : 0 ≤ intB b ∧ intB b < 2 := by cases b <;> decide
theorem outs_ok {many : Int} {small : Bool} (h : 0 < many) (h2 : many < 2 ^ 64) (s : Tape) : Tot (m_law_outs many small) s (fun w => (∀ o ∈ w.1, OutOk many o) ∧ 1 ≤ w.1.length ∧ w.1.length ≤ 3) := by
  have hd := fun i => divI_ok (i := i) (j := 3) (by decide) (by decide)
  have hD := fun (k : Int) (a : 0 < k) (b : k < 2 ^ 64) (s : Tape) => draw a b s
  unfold m_law_outs
  simp only [tot_bnd, tot_ret, tot_zm, tot_nw, tot_rb, tot_fzL, tot_drL, tot_gtLS, tot_upLS, tot_lft, tot_gtL, tot_upL, tot_bif, tot_some, tot_rtF, ex_some, ex_someT, and_true, true_and, implies_true, few0, few1, few2, few3, tot_zmI, tot_wp, tot_psh, tot_pshL, tot_gtI, tot_upI, tot_bndX, tot_tryM, tot_tryO, tot_tryR]
  refine (draw (by decide) (by decide) _).mono fun w1 h1 => ?_
  refine (draw (by decide) (by decide) _).mono fun w2 h2' => ?_
  refine (draw (by decide) (by decide) _).mono fun w3 h3 => ?_
  refine at_in (fun x => 0 ≤ x ∧ x < 3) h3.1 (by simpa using h3.2) (by simp; omega) fun c hc => ?_
  obtain ⟨k, hk⟩ : ∃ k : Nat, 1 + c = (k : Int) := ⟨(1 + c).toNat, by omega⟩
  rw [hk, rng_ok (by omega)]
  simp only [tot_bnd, tot_ret, tot_zm, tot_nw, tot_rb, tot_fzL, tot_drL, tot_gtLS, tot_upLS, tot_lft, tot_gtL, tot_upL, tot_bif, tot_some, tot_rtF, ex_some, ex_someT, and_true, true_and, implies_true, few0, few1, few2, few3, tot_zmI, tot_wp, tot_psh, tot_pshL, tot_gtI, tot_upI, tot_bndX, tot_tryM, tot_tryO, tot_tryR]
  refine tot_fd (fun pre _ st => (∀ o ∈ st.2, OutOk many o) ∧ st.2.length = pre.length) ⟨by simp, rfl⟩ ?_ ?_
  · rintro pre x post z s1 e ⟨i1, i2⟩
    have hl : pre.length < 3 := by
      have := congrArg List.length e
      rw [rngL_len] at this; simp at this; omega
    simp only [tot_bnd, tot_ret, tot_zm, tot_nw, tot_rb, tot_fzL, tot_drL, tot_gtLS, tot_upLS, tot_lft, tot_gtL, tot_upL, tot_bif, tot_some, tot_rtF, ex_some, ex_someT, and_true, true_and, implies_true, few0, few1, few2, few3, tot_zmI, tot_wp, tot_psh, tot_pshL, tot_gtI, tot_upI, tot_bndX, tot_tryM, tot_tryO, tot_tryR]
    refine (draw h h2 _).mono fun w4 h4 => ?_
    refine (draw h h2 _).mono fun w5 h5 => ?_
    refine (draw (by decide) (by decide) _).mono fun w6 h6 => ?_
    refine at_in (fun x => ∀ t, x = some t → 0 ≤ t ∧ t < many) h6.1 (by simpa using h6.2) (by simp; omega) fun t ht => ?_
    refine (draw (by decide) (by decide) _).mono fun w7 h7 => ?_
    refine at_in (fun x => 0 < x ∧ x ≤ 60) (intB_lt _).1 (by simpa using (intB_lt _).2) (by simp) fun q hq => ?_
    refine (draw (by omega) (by omega) _).mono fun w8 h8 => ?_
    refine (draw (by decide) (by decide) _).mono fun w9 h9 => ?_
    simp only [hd, tot_bnd, tot_ret, tot_zm, tot_nw, tot_rb, tot_fzL, tot_drL, tot_gtLS, tot_upLS, tot_lft, tot_gtL, tot_upL, tot_bif, tot_some, tot_rtF, ex_some, ex_someT, and_true, true_and, implies_true, few0, few1, few2, few3, tot_zmI, tot_wp, tot_psh, tot_pshL, tot_gtI, tot_upI, tot_bndX, tot_tryM, tot_tryO, tot_tryR]
    refine at_in (fun x => 0 ≤ x ∧ x < 60) (by omega) (by simp; omega) (by simp; omega) fun p hp => ?_
    rw [app_ok (by show _ < 1000000; rw [i2]; omega)]
    simp only [tot_bnd, tot_ret, tot_zm, tot_nw, tot_rb, tot_fzL, tot_drL, tot_gtLS, tot_upLS, tot_lft, tot_gtL, tot_upL, tot_bif, tot_some, tot_rtF, ex_some, ex_someT, and_true, true_and, implies_true, few0, few1, few2, few3, tot_zmI, tot_wp, tot_psh, tot_pshL, tot_gtI, tot_upI, tot_bndX, tot_tryM, tot_tryO, tot_tryR]
    refine ⟨?_, by simp [i2]⟩
    intro o ho
    rcases List.mem_append.mp ho with ho | ho
    · exact i1 o ho
    · obtain rfl := List.mem_singleton.mp ho
      exact ⟨ht, by show 1 ≤ 1 + p; omega, by show 1 + p ≤ 60; omega⟩
  · rintro z s1 ⟨i1, i2⟩
    rw [rngL_len] at i2
    exact ⟨i1, by dsimp only; omega, by dsimp only; omega⟩

theorem mulB {i : Int} {b : Bool} : mulI i (intB b) = some (i * intB b) := mulI_ok (Or.inr (by cases b <;> decide))
theorem vessel_ok {number many spouts : Int} {small : Bool} (h0 : 0 ≤ number) (h : number < many) (h2 : many < 2 ^ 64) (h3 : 0 ≤ spouts) (h4 : spouts < 2 ^ 64) (s : Tape) : Tot (m_law_vessel number many spouts small) s (fun w => VesOk number many spouts w.1) := by
  have hd := fun i => divI_ok (i := i) (j := 3) (by decide) (by decide)
  unfold m_law_vessel
  refine tot_cut (fun w => 1 ≤ w.1 ∧ w.1 ≤ 60) ?_ fun size s1 hs => ?_
  · simp only [tot_bnd, tot_ret, tot_zm, tot_nw, tot_rb, tot_fzL, tot_drL, tot_gtLS, tot_upLS, tot_lft, tot_gtL, tot_upL, tot_bif, tot_some, tot_rtF, ex_some, ex_someT, and_true, true_and, implies_true, few0, few1, few2, few3, tot_zmI, tot_wp, tot_psh, tot_pshL, tot_gtI, tot_upI, tot_bndX, tot_tryM, tot_tryO, tot_tryR]
    refine at_in (fun x => 0 < x ∧ x ≤ 60) (intB_lt _).1 (by simpa using (intB_lt _).2) (by simp) fun q hq => ?_
    refine (draw (by omega) (by omega) _).mono fun w1 h1 => ?_
    refine at_in (fun x => 0 < x ∧ x ≤ 60) (intB_lt _).1 (by simpa using (intB_lt _).2) (by simp) fun q2 hq2 => ?_
    refine (draw (by omega) (by omega) _).mono fun w2 h2 => ?_
    refine (draw (by decide) (by decide) _).mono fun w3 h3 => ?_
    simp only [tot_bnd, tot_ret, tot_zm, tot_nw, tot_rb, tot_fzL, tot_drL, tot_gtLS, tot_upLS, tot_lft, tot_gtL, tot_upL, tot_bif, tot_some, tot_rtF, ex_some, ex_someT, and_true, true_and, implies_true, few0, few1, few2, few3, tot_zmI, tot_wp, tot_psh, tot_pshL, tot_gtI, tot_upI, tot_bndX, tot_tryM, tot_tryO, tot_tryR, hd]
    refine at_in (fun x => 0 ≤ x ∧ x < 60) (by omega) (by simp; omega) (by simp; omega) fun p hp => ?_
    exact ⟨by omega, by omega⟩
  refine tot_cut (fun w => size ≤ w.1 ∧ w.1 ≤ 200) ?_ fun brim s2 hb => ?_
  · simp only [tot_bnd, tot_ret, tot_zm, tot_nw, tot_rb, tot_fzL, tot_drL, tot_gtLS, tot_upLS, tot_lft, tot_gtL, tot_upL, tot_bif, tot_some, tot_rtF, ex_some, ex_someT, and_true, true_and, implies_true, few0, few1, few2, few3, tot_zmI, tot_wp, tot_psh, tot_pshL, tot_gtI, tot_upI, tot_bndX, tot_tryM, tot_tryO, tot_tryR]
    refine (draw (by omega) (by omega) _).mono fun w1 h1 => ?_
    refine (draw (by decide) (by decide) _).mono fun w2 h2 => ?_
    rw [mulB]
    simp only [tot_bnd, tot_ret, tot_zm, tot_nw, tot_rb, tot_fzL, tot_drL, tot_gtLS, tot_upLS, tot_lft, tot_gtL, tot_upL, tot_bif, tot_some, tot_rtF, ex_some, ex_someT, and_true, true_and, implies_true, few0, few1, few2, few3, tot_zmI, tot_wp, tot_psh, tot_pshL, tot_gtI, tot_upI, tot_bndX, tot_tryM, tot_tryO, tot_tryR]
    have hB : 0 ≤ w2.1 * intB (!small) ∧ w2.1 * intB (!small) < 2 := by
      cases small
      · show 0 ≤ w2.1 * 1 ∧ w2.1 * 1 < 2; omega
      · show 0 ≤ w2.1 * 0 ∧ w2.1 * 0 < 2; omega
    dsimp only at hs
    refine at_in (fun x => 0 ≤ x ∧ x ≤ 200 - size) hB.1 (by simpa using hB.2) (by simp; omega) fun p hp => ?_
    exact ⟨by first | omega | (dsimp only; omega), by first | omega | (dsimp only; omega)⟩
  dsimp only at hs hb
  refine tot_cut (fun w => size ≤ w.1 ∧ w.1 ≤ 200) ?_ fun brim2 s3 hb2 => ?_
  · simp only [tot_bnd, tot_ret, tot_zm, tot_nw, tot_rb, tot_fzL, tot_drL, tot_gtLS, tot_upLS, tot_lft, tot_gtL, tot_upL, tot_bif, tot_some, tot_rtF, ex_some, ex_someT, and_true, true_and, implies_true, few0, few1, few2, few3, tot_zmI, tot_wp, tot_psh, tot_pshL, tot_gtI, tot_upI, tot_bndX, tot_tryM, tot_tryO, tot_tryR]
    refine (draw (by decide) (by decide) _).mono fun w1 h1 => ⟨fun _ => ?_, fun _ => hb⟩
    exact (draw (by decide) (by decide) _).mono fun w2 h2 => ⟨by omega, by omega⟩
  rw [tot_bnd, tot_ret]
  refine tot_cut (fun w => ∀ t, w.1 = some t → number < t ∧ t < many) ?_ fun spill s4 hp => ?_
  · refine tot_cut (fun w => w.1 = true → number + 1 < many) ?_ fun b s5 hbb => ?_
    · simp only [tot_bnd, tot_ret, tot_zm, tot_nw, tot_rb, tot_fzL, tot_drL, tot_gtLS, tot_upLS, tot_lft, tot_gtL, tot_upL, tot_bif, tot_some, tot_rtF, ex_some, ex_someT, and_true, true_and, implies_true, few0, few1, few2, few3, tot_zmI, tot_wp, tot_psh, tot_pshL, tot_gtI, tot_upI, tot_bndX, tot_tryM, tot_tryO, tot_tryR]
      refine ⟨fun e => (draw (by decide) (by decide) _).mono fun w1 h1 _ => of_decide_eq_true e, fun _ e => by cases e⟩
    · simp only [tot_bnd, tot_ret, tot_zm, tot_nw, tot_rb, tot_fzL, tot_drL, tot_gtLS, tot_upLS, tot_lft, tot_gtL, tot_upL, tot_bif, tot_some, tot_rtF, ex_some, ex_someT, and_true, true_and, implies_true, few0, few1, few2, few3, tot_zmI, tot_wp, tot_psh, tot_pshL, tot_gtI, tot_upI, tot_bndX, tot_tryM, tot_tryO, tot_tryR]
      refine ⟨fun e => ?_, fun _ t e => by cases e⟩
      have := hbb e
      refine (draw (by omega) (by omega) _).mono fun w2 h2 t e => ?_
      cases e; omega
  dsimp only at hb2 hp
  simp only [tot_bnd, tot_ret, tot_zm, tot_nw, tot_rb, tot_fzL, tot_drL, tot_gtLS, tot_upLS, tot_lft, tot_gtL, tot_upL, tot_some, tot_rtF, ex_some, ex_someT, and_true, true_and, implies_true, few0, few1, few2, few3, tot_zmI, tot_wp, tot_psh, tot_pshL, tot_gtI, tot_upI, tot_bndX, tot_tryM, tot_tryO, tot_tryR]
  refine Tot.mono (Q := fun (w : Unit × (Tape × List Act)) => (∀ a ∈ w.2.2, ActOk spouts a) ∧ w.2.2.length ≤ 3) ?_ fun w ha => ?_
  · rw [tot_bif]
    refine ⟨fun e => ?_, fun _ => by rw [tot_some]; exact ⟨by simp, by simp⟩⟩
    have hsp : 0 < spouts := of_decide_eq_true e
    simp only [tot_bnd, tot_ret, tot_zm, tot_nw, tot_rb, tot_fzL, tot_drL, tot_gtLS, tot_upLS, tot_lft, tot_gtL, tot_upL, tot_bif, tot_some, tot_rtF, ex_some, ex_someT, and_true, true_and, implies_true, few0, few1, few2, few3, tot_zmI, tot_wp, tot_psh, tot_pshL, tot_gtI, tot_upI, tot_bndX, tot_tryM, tot_tryO, tot_tryR]
    refine (draw (by decide) (by decide) _).mono fun w1 h1 => ?_
    obtain ⟨k, hk⟩ : ∃ k : Nat, w1.1 / 3 = (k : Int) := ⟨(w1.1 / 3).toNat, by omega⟩
    rw [hd, ex_some, hk, rng_ok (by omega), ex_some]
    refine tot_fd (fun pre _ st => (∀ a ∈ st.2, ActOk spouts a) ∧ st.2.length = pre.length) ⟨by simp, rfl⟩ ?_ ?_
    · rintro pre x post z s1 e ⟨i1, i2⟩
      have hl : pre.length < 4 := by
        have := congrArg List.length e
        rw [rngL_len] at this; simp at this; omega
      simp only [tot_bnd, tot_ret, tot_zm, tot_nw, tot_rb, tot_fzL, tot_drL, tot_gtLS, tot_upLS, tot_lft, tot_gtL, tot_upL, tot_bif, tot_some, tot_rtF, ex_some, ex_someT, and_true, true_and, implies_true, few0, few1, few2, few3, tot_zmI, tot_wp, tot_psh, tot_pshL, tot_gtI, tot_upI, tot_bndX, tot_tryM, tot_tryO, tot_tryR]
      refine (draw (by decide) (by decide) _).mono fun w4 h4 => ?_
      refine at_in (fun x => x = "open" ∨ x = "shut" ∨ x = "turn") h4.1 (by simpa using h4.2) (by simp) fun t ht => ?_
      refine (draw (by omega) (by omega) _).mono fun w5 h5 => ?_
      rw [app_ok (by show _ < 1000000; rw [i2]; omega)]
      simp only [tot_bnd, tot_ret, tot_zm, tot_nw, tot_rb, tot_fzL, tot_drL, tot_gtLS, tot_upLS, tot_lft, tot_gtL, tot_upL, tot_bif, tot_some, tot_rtF, ex_some, ex_someT, and_true, true_and, implies_true, few0, few1, few2, few3, tot_zmI, tot_wp, tot_psh, tot_pshL, tot_gtI, tot_upI, tot_bndX, tot_tryM, tot_tryO, tot_tryR]
      refine ⟨?_, by simp [i2]⟩
      intro o ho
      rcases List.mem_append.mp ho with ho | ho
      · exact i1 o ho
      · obtain rfl := List.mem_singleton.mp ho
        exact ⟨ht, h5⟩
    · rintro z s1 ⟨i1, i2⟩
      rw [rngL_len] at i2
      exact ⟨i1, by first | omega | (dsimp only; omega)⟩
  refine (outs_ok (by omega) (by omega) _).mono fun w1 h1 => ?_
  refine (draw (by decide) (by decide) _).mono fun w2 h2 => ?_
  exact ⟨hs.1, hs.2, hb2.1, hb2.2, h1.1, h1.2.1, h1.2.2, hp, ha.1, ha.2⟩
theorem net_ok {most : Int} {small : Bool} (h : 1 ≤ most) (h2 : most ≤ 90) (s : Tape) : Tot (m_law_net most small) s (fun w => NetOk w.1 ∧ (w.1.1.length : Int) ≤ most ∧ w.1.2.length ≤ 12) := by
  have hd := fun i => divI_ok (i := i) (j := 3) (by decide) (by decide)
  unfold m_law_net
  refine tot_cut (fun w => 1 ≤ w.1 ∧ w.1 ≤ most) ?_ fun many s1 hm => ?_
  · simp only [tot_bnd, tot_ret, tot_zm, tot_nw, tot_rb, tot_fzL, tot_drL, tot_gtLS, tot_upLS, tot_lft, tot_gtL, tot_upL, tot_bif, tot_some, tot_rtF, ex_some, ex_someT, and_true, true_and, implies_true, few0, few1, few2, few3, tot_zmI, tot_wp, tot_psh, tot_pshL, tot_gtI, tot_upI, tot_bndX, tot_tryM, tot_tryO, tot_tryR]
    refine (draw (by omega) (by omega) _).mono fun w1 h1 => ⟨by first | omega | (dsimp only; omega), by first | omega | (dsimp only; omega)⟩
  refine tot_cut (fun w => 0 ≤ w.1 ∧ w.1 ≤ 12) ?_ fun spouts s2 hs => ?_
  · simp only [tot_bnd, tot_ret, tot_zm, tot_nw, tot_rb, tot_fzL, tot_drL, tot_gtLS, tot_upLS, tot_lft, tot_gtL, tot_upL, tot_bif, tot_some, tot_rtF, ex_some, ex_someT, and_true, true_and, implies_true, few0, few1, few2, few3, tot_zmI, tot_wp, tot_psh, tot_pshL, tot_gtI, tot_upI, tot_bndX, tot_tryM, tot_tryO, tot_tryR]
    refine (draw (by decide) (by decide) _).mono fun w1 h1 => ?_
    refine (draw (by decide) (by decide) _).mono fun w2 h2 => ?_
    refine (draw (by decide) (by decide) _).mono fun w3 h3 => ?_
    simp only [tot_bnd, tot_ret, tot_zm, tot_nw, tot_rb, tot_fzL, tot_drL, tot_gtLS, tot_upLS, tot_lft, tot_gtL, tot_upL, tot_bif, tot_some, tot_rtF, ex_some, ex_someT, and_true, true_and, implies_true, few0, few1, few2, few3, tot_zmI, tot_wp, tot_psh, tot_pshL, tot_gtI, tot_upI, tot_bndX, tot_tryM, tot_tryO, tot_tryR, hd]
    refine at_in (fun x => 0 ≤ x ∧ x ≤ 12) (by omega) (by simp; omega) (by simp; omega) fun p hp => ?_
    exact hp
  dsimp only at hm hs
  obtain ⟨n, rfl⟩ : ∃ n : Nat, many = (n : Int) := ⟨many.toNat, by omega⟩
  obtain ⟨m, rfl⟩ : ∃ m : Nat, spouts = (m : Int) := ⟨spouts.toNat, by omega⟩
  refine tot_cut (fun w => w.1.length = n ∧ ∀ (k : Nat) v, w.1[k]? = some v → VesOk k n m v) ?_ fun vessels s3 hv => ?_
  · simp only [tot_bnd, tot_ret, tot_zm, tot_nw, tot_rb, tot_fzL, tot_drL, tot_gtLS, tot_upLS, tot_lft, tot_gtL, tot_upL, tot_bif, tot_some, tot_rtF, ex_some, ex_someT, and_true, true_and, implies_true, few0, few1, few2, few3, tot_zmI, tot_wp, tot_psh, tot_pshL, tot_gtI, tot_upI, tot_bndX, tot_tryM, tot_tryO, tot_tryR]
    rw [rng_ok (by omega)]
    simp only [tot_bnd, tot_ret, tot_zm, tot_nw, tot_rb, tot_fzL, tot_drL, tot_gtLS, tot_upLS, tot_lft, tot_gtL, tot_upL, tot_bif, tot_some, tot_rtF, ex_some, ex_someT, and_true, true_and, implies_true, few0, few1, few2, few3, tot_zmI, tot_wp, tot_psh, tot_pshL, tot_gtI, tot_upI, tot_bndX, tot_tryM, tot_tryO, tot_tryR]
    rw [chk_ok (by rw [rngL_len]; show n < 1000000; omega)]
    simp only [tot_bnd, tot_ret, tot_zm, tot_nw, tot_rb, tot_fzL, tot_drL, tot_gtLS, tot_upLS, tot_lft, tot_gtL, tot_upL, tot_bif, tot_some, tot_rtF, ex_some, ex_someT, and_true, true_and, implies_true, few0, few1, few2, few3, tot_zmI, tot_wp, tot_psh, tot_pshL, tot_gtI, tot_upI, tot_bndX, tot_tryM, tot_tryO, tot_tryR]
    refine tot_mp (fun pre ys _ => ys.length = pre.length ∧ ∀ (k : Nat) v, ys[k]? = some v → VesOk k n m v) ⟨rfl, by simp⟩ ?_ ?_
    · rintro pre x post ys s1 e ⟨i1, i2⟩
      have hx : x = (pre.length : Int) ∧ pre.length < n := by
        have e1 := congrArg (fun l => l[pre.length]?) e
        have e2 := congrArg List.length e
        rw [rngL_len] at e2
        simp at e2
        have hl : pre.length < n := by omega
        simp [rngL_eq, hl] at e1
        exact ⟨by omega, hl⟩
      simp only [tot_bnd, tot_ret, tot_zm, tot_nw, tot_rb, tot_fzL, tot_drL, tot_gtLS, tot_upLS, tot_lft, tot_gtL, tot_upL, tot_bif, tot_some, tot_rtF, ex_some, ex_someT, and_true, true_and, implies_true, few0, few1, few2, few3, tot_zmI, tot_wp, tot_psh, tot_pshL, tot_gtI, tot_upI, tot_bndX, tot_tryM, tot_tryO, tot_tryR]
      refine (vessel_ok (by omega) (by omega) (by omega) (by omega) (by omega) _).mono fun w1 h1 => ?_
      refine ⟨by simp [i1], fun k v hk => ?_⟩
      by_cases hkl : k < ys.length
      · rw [List.getElem?_append_left hkl] at hk
        exact i2 k v hk
      · rw [List.getElem?_append_right (by omega)] at hk
        have : k - ys.length = 0 := by
          by_cases h0 : k - ys.length = 0
          · exact h0
          · have : (k - ys.length) ≥ 1 := by omega
            rw [List.getElem?_eq_none (by simpa using this)] at hk; cases hk
        rw [this] at hk
        cases hk
        have e3 : k = pre.length := by omega
        subst e3
        rw [hx.1] at h1
        exact h1
    · rintro ys s1 ⟨i1, i2⟩
      rw [rngL_len] at i1
      exact ⟨i1, i2⟩
  dsimp only at hv
  simp only [tot_bnd, tot_ret, tot_zm, tot_nw, tot_rb, tot_fzL, tot_drL, tot_gtLS, tot_upLS, tot_lft, tot_gtL, tot_upL, tot_bif, tot_some, tot_rtF, ex_some, ex_someT, and_true, true_and, implies_true, few0, few1, few2, few3, tot_zmI, tot_wp, tot_psh, tot_pshL, tot_gtI, tot_upI, tot_bndX, tot_tryM, tot_tryO, tot_tryR]
  rw [rng_ok (by omega)]
  simp only [tot_bnd, tot_ret, tot_zm, tot_nw, tot_rb, tot_fzL, tot_drL, tot_gtLS, tot_upLS, tot_lft, tot_gtL, tot_upL, tot_bif, tot_some, tot_rtF, ex_some, ex_someT, and_true, true_and, implies_true, few0, few1, few2, few3, tot_zmI, tot_wp, tot_psh, tot_pshL, tot_gtI, tot_upI, tot_bndX, tot_tryM, tot_tryO, tot_tryR]
  refine tot_fd (fun pre _ st => (∀ p ∈ st.2, 0 ≤ p.1 ∧ p.1 < (n : Int) ∧ 0 ≤ p.2.1 ∧ p.2.1 ≤ 60) ∧ st.2.length = pre.length) ⟨by simp, rfl⟩ ?_ ?_
  · rintro pre x post z s1 e ⟨i1, i2⟩
    have hl : pre.length < 13 := by
      have := congrArg List.length e
      rw [rngL_len] at this; simp at this; omega
    simp only [tot_bnd, tot_ret, tot_zm, tot_nw, tot_rb, tot_fzL, tot_drL, tot_gtLS, tot_upLS, tot_lft, tot_gtL, tot_upL, tot_bif, tot_some, tot_rtF, ex_some, ex_someT, and_true, true_and, implies_true, few0, few1, few2, few3, tot_zmI, tot_wp, tot_psh, tot_pshL, tot_gtI, tot_upI, tot_bndX, tot_tryM, tot_tryO, tot_tryR]
    refine (draw (by decide) (by decide) _).mono fun w4 h4 => ?_
    refine at_in (fun x => 0 < x ∧ x ≤ 61) (intB_lt _).1 (by simpa using (intB_lt _).2) (by simp) fun q hq => ?_
    refine (draw (by omega) (by omega) _).mono fun w8 h8 => ?_
    refine (draw (by decide) (by decide) _).mono fun w9 h9 => ?_
    simp only [tot_bnd, tot_ret, tot_zm, tot_nw, tot_rb, tot_fzL, tot_drL, tot_gtLS, tot_upLS, tot_lft, tot_gtL, tot_upL, tot_bif, tot_some, tot_rtF, ex_some, ex_someT, and_true, true_and, implies_true, few0, few1, few2, few3, tot_zmI, tot_wp, tot_psh, tot_pshL, tot_gtI, tot_upI, tot_bndX, tot_tryM, tot_tryO, tot_tryR, hd]
    refine at_in (fun x => 0 ≤ x ∧ x ≤ 60) (by omega) (by simp; omega) (by simp; omega) fun p hp => ?_
    refine (draw (by omega) (by omega) _).mono fun w10 h10 => ?_
    refine (draw (by decide) (by decide) _).mono fun w11 h11 => ?_
    rw [app_ok (by show _ < 1000000; rw [i2]; omega)]
    simp only [tot_bnd, tot_ret, tot_zm, tot_nw, tot_rb, tot_fzL, tot_drL, tot_gtLS, tot_upLS, tot_lft, tot_gtL, tot_upL, tot_bif, tot_some, tot_rtF, ex_some, ex_someT, and_true, true_and, implies_true, few0, few1, few2, few3, tot_zmI, tot_wp, tot_psh, tot_pshL, tot_gtI, tot_upI, tot_bndX, tot_tryM, tot_tryO, tot_tryR]
    refine ⟨?_, by simp [i2]⟩
    intro o ho
    rcases List.mem_append.mp ho with ho | ho
    · exact i1 o ho
    · obtain rfl := List.mem_singleton.mp ho
      exact ⟨h10.1, h10.2, hp⟩
  · rintro z s1 ⟨i1, i2⟩
    rw [rngL_len] at i2
    refine ⟨⟨by first | omega | (dsimp only; omega), by first | omega | (dsimp only; omega), by first | omega | (dsimp only; omega), ?_, ?_⟩, by first | omega | (dsimp only; omega), by first | omega | (dsimp only; omega)⟩
    · dsimp only; rw [hv.1, i2]; exact hv.2
    · dsimp only; rw [hv.1]; exact i1

/-! a tick, plainly -/
structure StOk (net : Net) (st : State) : Prop where
  held : st.1.length = net.1.length
  com : st.2.1.length = net.1.length
  doors : st.2.2.length = net.2.length
abbrev v0 : Vessel := (1, 1, [], false, none, [])
abbrev p0 : Spout := (0, 0, false)
def firstS (net : Net) : State := (List.replicate net.1.length 0, List.replicate net.1.length 0, net.2.map (·.2.2))
theorem firstS_ok (net : Net) : StOk net (firstS net) := ⟨by simp [firstS], by simp [firstS], by simp [firstS]⟩
theorem rep_flat {α : Type} (x : α) : ∀ n, (List.replicate n [x]).flatten = List.replicate n x
  | 0 => rfl
  | n + 1 => by rw [List.replicate_succ, List.flatten_cons, rep_flat x n, List.replicate_succ]; rfl
theorem law_first_ok {net : Net} (h : NetOk net) : m_law_first net = some (firstS net) := by
  have h1 := h.n1
  have h2 := h.n2
  have h3 := h.m2
  unfold m_law_first
  rw [tot_rn]
  have e : repT [(0 : Int)] (net.1.length : Int) = some (List.replicate net.1.length 0) := by
    simp only [repT]
    rw [if_pos (by simp; omega)]
    simp [rep_flat]
  simp only [tot_bnd, tot_ret, tot_zm, tot_nw, tot_rb, tot_fzL, tot_drL, tot_gtLS, tot_upLS, tot_lft, tot_gtL, tot_upL, tot_bif, tot_some, tot_rtF, ex_some, ex_someT, and_true, true_and, implies_true, few0, few1, few2, few3, tot_zmI, tot_wp, tot_psh, tot_pshL, tot_gtI, tot_upI, tot_bndX, tot_tryM, tot_tryO, tot_tryR, e, chk_ok (show net.2.length < lim by show _ < 1000000; omega)]
  exact tot_mp_fn (fun x => x.2.2) (fun x _ s1 => by simp only [tot_bnd, tot_ret, tot_zm, tot_nw, tot_rb, tot_fzL, tot_drL, tot_gtLS, tot_upLS, tot_lft, tot_gtL, tot_upL, tot_bif, tot_some, tot_rtF, ex_some, ex_someT, and_true, true_and, implies_true, few0, few1, few2, few3, tot_zmI, tot_wp, tot_psh, tot_pshL, tot_gtI, tot_upI, tot_bndX, tot_tryM, tot_tryO, tot_tryR]) rfl
theorem first_state_ok {net : Net} (h : NetOk net) : m_first_state net = some (firstS net) := by
  have h2 := h.n2
  have h3 := h.m2
  unfold m_first_state
  rw [tot_rn]
  simp only [tot_bnd, tot_ret, tot_zm, tot_nw, tot_rb, tot_fzL, tot_drL, tot_gtLS, tot_upLS, tot_lft, tot_gtL, tot_upL, tot_bif, tot_some, tot_rtF, ex_some, ex_someT, and_true, true_and, implies_true, few0, few1, few2, few3, tot_zmI, tot_wp, tot_psh, tot_pshL, tot_gtI, tot_upI, tot_bndX, tot_tryM, tot_tryO, tot_tryR, chk_ok (show net.2.length < lim by show _ < 1000000; omega), chk_ok (show net.1.length < lim by show _ < 1000000; omega)]
  refine tot_mp_fn (fun _ => (0 : Int)) (fun x _ s1 => by simp only [tot_bnd, tot_ret, tot_zm, tot_nw, tot_rb, tot_fzL, tot_drL, tot_gtLS, tot_upLS, tot_lft, tot_gtL, tot_upL, tot_bif, tot_some, tot_rtF, ex_some, ex_someT, and_true, true_and, implies_true, few0, few1, few2, few3, tot_zmI, tot_wp, tot_psh, tot_pshL, tot_gtI, tot_upI, tot_bndX, tot_tryM, tot_tryO, tot_tryR]) ?_
  refine tot_mp_fn (fun x => x.2.2) (fun x _ s1 => by simp only [tot_bnd, tot_ret, tot_zm, tot_nw, tot_rb, tot_fzL, tot_drL, tot_gtLS, tot_upLS, tot_lft, tot_gtL, tot_upL, tot_bif, tot_some, tot_rtF, ex_some, ex_someT, and_true, true_and, implies_true, few0, few1, few2, few3, tot_zmI, tot_wp, tot_psh, tot_pshL, tot_gtI, tot_upI, tot_bndX, tot_tryM, tot_tryO, tot_tryR]) ?_
  show (List.map _ _, List.map _ _, _) = _
  rw [List.map_const']
  rfl
def addAt (xs : List Int) (k : Nat) (a : Int) : List Int := xs.set k (xs.getD k 0 + a)
theorem addAt_len (xs : List Int) (k : Nat) (a : Int) : (addAt xs k a).length = xs.length := by simp [addAt]
def baseS (net : Net) (st : State) (p : List Int) : List Int := (List.range net.1.length).map fun k => st.1.getD k 0 + st.2.1.getD k 0 + p.getD k 0
def stepF (net : Net) (st : State) (has : List Int) (k : Nat) : List Int := if st.2.2.getD k false = true then addAt has (net.2.getD k p0).1.toNat (net.2.getD k p0).2.1 else has
def filledS (net : Net) (st : State) (p : List Int) : List Int := (List.range net.2.length).foldl (stepF net st) (baseS net st p)
theorem stepF_len (net : Net) (st : State) (b : List Int) (k : Nat) : (stepF net st b k).length = b.length := by
  unfold stepF; split <;> simp [addAt_len]
theorem fold_len (net : Net) (st : State) (n : Nat) (b : List Int) : ((List.range n).foldl (stepF net st) b).length = b.length := by
  induction n with
  | zero => rfl
  | succ n ih => rw [List.range_succ, List.foldl_append]; show (stepF net st _ n).length = _; rw [stepF_len, ih]
theorem baseS_len (net : Net) (st : State) (p : List Int) : (baseS net st p).length = net.1.length := by simp [baseS]
theorem filledS_len (net : Net) (st : State) (p : List Int) : (filledS net st p).length = net.1.length := by rw [filledS, fold_len, baseS_len]
def flowS (net : Net) (st : State) (n : Nat) : Int := ((List.range n).map fun k => if st.2.2.getD k false = true then (net.2.getD k p0).2.1 else 0).sum
theorem law_filled_ok {net : Net} {st : State} {p : List Int} (h : NetOk net) (hs : StOk net st) (hp : p.length = net.1.length) : m_law_filled net st p = some (filledS net st p) := by
  have h1 := hs.held
  have h2 := hs.com
  have h3 := hs.doors
  have h4 := h.n2
  have h5 := h.m2
  unfold m_law_filled
  rw [tot_rn]
  simp only [tot_bnd, tot_ret, tot_zm, tot_nw, tot_rb, tot_fzL, tot_drL, tot_gtLS, tot_upLS, tot_lft, tot_gtL, tot_upL, tot_bif, tot_some, tot_rtF, ex_some, ex_someT, and_true, true_and, implies_true, few0, few1, few2, few3, tot_zmI, tot_wp, tot_psh, tot_pshL, tot_gtI, tot_upI, tot_bndX, tot_tryM, tot_tryO, tot_tryR, rng_ok (show net.1.length ≤ 1000000 by omega), rng_ok (show net.2.length ≤ 1000000 by omega), chk_ok (show (rngL 0 net.1.length).length < lim by rw [rngL_len]; show _ < 1000000; omega)]
  refine tot_mp_rng (fun k => st.1.getD k 0 + st.2.1.getD k 0 + p.getD k 0) (fun k hk s1 => ?_) ?_
  · simp only [tot_bnd, tot_ret, tot_zm, tot_nw, tot_rb, tot_fzL, tot_drL, tot_gtLS, tot_upLS, tot_lft, tot_gtL, tot_upL, tot_bif, tot_some, tot_rtF, ex_some, ex_someT, and_true, true_and, implies_true, few0, few1, few2, few3, tot_zmI, tot_wp, tot_psh, tot_pshL, tot_gtI, tot_upI, tot_bndX, tot_tryM, tot_tryO, tot_tryR, atI_d 0 (show k < st.1.length by omega), atI_d 0 (show k < st.2.1.length by omega), atI_d 0 (show k < p.length by omega)]
  refine tot_fd_rng (fun j _ s1 => s1.2 = (List.range j).foldl (stepF net st) (baseS net st p)) rfl ?_ ?_
  · intro k z s1 hk i
    have hl : s1.2.length = net.1.length := by rw [i, fold_len, baseS_len]
    have hsp := h.spo (net.2.getD k p0) (by rw [List.getD_eq_getElem?_getD, List.getElem?_eq_getElem hk]; exact List.getElem_mem hk)
    simp only [tot_bnd, tot_ret, tot_zm, tot_nw, tot_rb, tot_fzL, tot_drL, tot_gtLS, tot_upLS, tot_lft, tot_gtL, tot_upL, tot_bif, tot_some, tot_rtF, ex_some, ex_someT, and_true, true_and, implies_true, few0, few1, few2, few3, tot_zmI, tot_wp, tot_psh, tot_pshL, tot_gtI, tot_upI, tot_bndX, tot_tryM, tot_tryO, tot_tryR, atI_d false (show k < st.2.2.length by omega), atI_d p0 hk, atI_dI 0 hsp.1 (show (net.2.getD k p0).1 < s1.2.length by omega), setI_ok hsp.1 (show (net.2.getD k p0).1 < s1.2.length by omega)]
    rw [List.range_succ, List.foldl_append, ← i]
    refine ⟨fun e => ?_, fun e => ?_⟩
    · show _ = stepF net st s1.2 k
      rw [stepF, if_pos e]; rfl
    · show _ = stepF net st s1.2 k
      rw [stepF, if_neg (by rw [e]; decide)]
  · intro z s1 i
    exact i
theorem filled_ok {net : Net} {st : State} {p : List Int} (h : NetOk net) (hs : StOk net st) (hp : p.length = net.1.length) : m_filled net st p = some (filledS net st p, p.sum + flowS net st net.2.length) := by
  have h1 := hs.held
  have h2 := hs.com
  have h3 := hs.doors
  have h4 := h.n2
  have h5 := h.m2
  unfold m_filled
  rw [tot_rn]
  simp only [tot_bnd, tot_ret, tot_zm, tot_nw, tot_rb, tot_fzL, tot_drL, tot_gtLS, tot_upLS, tot_lft, tot_gtL, tot_upL, tot_bif, tot_some, tot_rtF, ex_some, ex_someT, and_true, true_and, implies_true, few0, few1, few2, few3, tot_zmI, tot_wp, tot_psh, tot_pshL, tot_gtI, tot_upI, tot_bndX, tot_tryM, tot_tryO, tot_tryR, rng_ok (show net.1.length ≤ 1000000 by omega), chk_ok (show (rngL 0 net.1.length).length < lim by rw [rngL_len]; show _ < 1000000; omega)]
  refine tot_mp_rng (fun k => st.1.getD k 0 + st.2.1.getD k 0 + p.getD k 0) (fun k hk s1 => ?_) ?_
  · simp only [tot_bnd, tot_ret, tot_zm, tot_nw, tot_rb, tot_fzL, tot_drL, tot_gtLS, tot_upLS, tot_lft, tot_gtL, tot_upL, tot_bif, tot_some, tot_rtF, ex_some, ex_someT, and_true, true_and, implies_true, few0, few1, few2, few3, tot_zmI, tot_wp, tot_psh, tot_pshL, tot_gtI, tot_upI, tot_bndX, tot_tryM, tot_tryO, tot_tryR, atI_d 0 (show k < st.1.length by omega), atI_d 0 (show k < st.2.1.length by omega), atI_d 0 (show k < p.length by omega)]
  refine tot_fd_enum (fun j z s1 => s1.2 = (List.range j).foldl (stepF net st) (baseS net st p) ∧ z = p.sum + flowS net st j) ⟨rfl, by simp [flowS]⟩ ?_ ?_
  · rintro k x z s1 hx ⟨i, i2⟩
    have hk : k < net.2.length := (List.getElem?_eq_some_iff.mp hx).1
    have hl : s1.2.length = net.1.length := by rw [i, fold_len, baseS_len]
    have ex : net.2.getD k p0 = x := getD_of hx
    have hsp := h.spo x (List.mem_of_getElem? hx)
    simp only [tot_bnd, tot_ret, tot_zm, tot_nw, tot_rb, tot_fzL, tot_drL, tot_gtLS, tot_upLS, tot_lft, tot_gtL, tot_upL, tot_bif, tot_some, tot_rtF, ex_some, ex_someT, and_true, true_and, implies_true, few0, few1, few2, few3, tot_zmI, tot_wp, tot_psh, tot_pshL, tot_gtI, tot_upI, tot_bndX, tot_tryM, tot_tryO, tot_tryR, atI_d false (show k < st.2.2.length by omega), atI_dI 0 hsp.1 (show x.1 < s1.2.length by omega), setI_ok hsp.1 (show x.1 < s1.2.length by omega)]
    rw [List.range_succ, List.foldl_append, ← i]
    have ef : flowS net st (k + 1) = flowS net st k + (if st.2.2.getD k false = true then x.2.1 else 0) := by
      unfold flowS; rw [List.range_succ, List.map_append, List.sum_append, ← ex]; simp
    refine ⟨fun e => ⟨?_, ?_⟩, fun e => ⟨?_, ?_⟩⟩
    · show _ = stepF net st s1.2 k
      rw [stepF, if_pos e, ex]; rfl
    · rw [ef, if_pos e, i2]; omega
    · show _ = stepF net st s1.2 k
      rw [stepF, if_neg (by rw [e]; decide)]
    · rw [ef, if_neg (by rw [e]; decide), i2]; omega
  · rintro z s1 ⟨i, i2⟩
    dsimp only
    rw [i, i2]; rfl

/-! what a vessel gives -/
def amt (t : Option Int) (g : List (Option Int × Int)) : Int := ((g.filter fun q => decide (q.1 = t)).map (·.2)).sum
def laterOf (n : Nat) (g : List (Option Int × Int)) : List Int := (List.range n).map fun (k : Nat) => amt (some (k : Int)) g
abbrev pourOf (n : Nat) (g : List (Option Int × Int)) : Pour := (laterOf n g, amt none g)
theorem amt_app (t : Option Int) (g h : List (Option Int × Int)) : amt t (g ++ h) = amt t g + amt t h := by simp [amt]
theorem amt_nil (t : Option Int) : amt t [] = 0 := rfl
theorem amt_one (t u : Option Int) (a : Int) : amt t [(u, a)] = if u = t then a else 0 := by
  unfold amt
  by_cases h : u = t <;> simp [h]
theorem laterOf_len (n : Nat) (g : List (Option Int × Int)) : (laterOf n g).length = n := by simp [laterOf]
def TgOk (n : Int) (t : Option Int) : Prop := ∀ k, t = some k → 0 ≤ k ∧ k < n
theorem give_ok {n : Nat} {t : Option Int} {a : Int} {g : List (Option Int × Int)} (h : TgOk n t) : mPourGive t a (pourOf n g) = some ((), pourOf n (g ++ [(t, a)])) := by
  cases t with
  | none =>
    show some ((), (laterOf n g, amt none g + a)) = _
    have e1 : amt none (g ++ [(none, a)]) = amt none g + a := by rw [amt_app, amt_one]; simp
    have e2 : laterOf n (g ++ [(none, a)]) = laterOf n g := by
      unfold laterOf
      refine List.map_congr_left fun k _ => ?_
      rw [amt_app, amt_one]; simp
    show _ = some ((), (laterOf n _, amt none _))
    rw [e1, e2]
  | some k =>
    obtain ⟨h0, h1⟩ := h k rfl
    unfold mPourGive
    simp only
    rw [atI_dI 0 h0 (by rw [laterOf_len]; exact h1)]
    simp only [Option.bind]
    rw [setI_ok h0 (by rw [laterOf_len]; exact h1)]
    show some ((), (_, amt none g)) = _
    have e1 : amt none (g ++ [(some k, a)]) = amt none g := by rw [amt_app, amt_one]; simp
    have e2 : laterOf n (g ++ [(some k, a)]) = (laterOf n g).set k.toNat ((laterOf n g).getD k.toNat 0 + a) := by
      refine List.ext_getElem (by simp [laterOf_len]) fun i hi1 hi2 => ?_
      have hi : i < n := by rw [laterOf_len] at hi1; exact hi1
      have hk : k.toNat < n := by omega
      rw [List.getElem_set]
      simp only [laterOf, List.getElem_map, List.getElem_range, amt_app, amt_one]
      by_cases hik : k.toNat = i
      · subst hik
        have : (some k : Option Int) = some ((k.toNat : Nat) : Int) := by rw [Int.toNat_of_nonneg h0]
        rw [if_pos this, if_pos rfl]
        simp [hk]
      · have : ¬ (some k : Option Int) = some (i : Int) := fun e => hik (by cases e; simp)
        rw [if_neg this, if_neg hik]; omega
    show _ = some ((), (laterOf n _, amt none _))
    rw [e1, e2]
def hereOf (v : Vessel) (a : Int) : Int := if v.2.1 < a then v.2.1 else a
def wholeOf (v : Vessel) : Int := (v.2.2.1.map (·.2)).sum
def tipsOf (v : Vessel) (a : Int) (k : Nat) (stuck : Option Int) : Bool := decide (v.1 ≤ hereOf v a) && !decide (some (k : Int) = stuck)
def tipPours (v : Vessel) (a : Int) : List (Option Int × Int) := v.2.2.1.map (fun o => (o.1, hereOf v a / wholeOf v * o.2)) ++ (if v.2.2.2.1 = true then [] else [(none, hereOf v a % wholeOf v)])
def pours (v : Vessel) (a : Int) (k : Nat) (stuck : Option Int) : List (Option Int × Int) := (v.2.2.2.2.1, a - hereOf v a) :: (if tipsOf v a k stuck = true then tipPours v a else [])
def stayOf (v : Vessel) (a : Int) (k : Nat) (stuck : Option Int) : Int := if tipsOf v a k stuck = true then (if v.2.2.2.1 = true then hereOf v a % wholeOf v else 0) else hereOf v a
theorem sum_ge {xs : List Int} (h : ∀ x ∈ xs, 1 ≤ x ∧ x ≤ 60) : (xs.length : Int) ≤ xs.sum ∧ xs.sum ≤ 60 * xs.length := by
  induction xs with
  | nil => simp
  | cons x xs ih =>
    have h1 := h x List.mem_cons_self
    have h2 := ih fun y hy => h y (List.mem_cons_of_mem _ hy)
    simp only [List.sum_cons, List.length_cons]
    omega
theorem whole_pos {k n m : Int} {v : Vessel} (h : VesOk k n m v) : 1 ≤ wholeOf v ∧ wholeOf v ≤ 180 := by
  have h1 := sum_ge (xs := v.2.2.1.map (·.2)) (by
    intro x hx
    obtain ⟨o, ho, rfl⟩ := List.mem_map.mp hx
    exact (h.outs o ho).2)
  have h2 := h.outs1
  have h3 := h.outs3
  rw [List.length_map] at h1
  unfold wholeOf
  omega
theorem tipped_ok {k n m : Nat} {v : Vessel} {a : Int} {g : List (Option Int × Int)} (h : VesOk k n m v) : m_tipped_out v (hereOf v a) (pourOf n g) = some (if v.2.2.2.1 = true then hereOf v a % wholeOf v else 0, pourOf n (g ++ tipPours v a)) := by
  have hw := whole_pos h
  have hl := h.outs3
  have e : Tot (m_tipped_out v (hereOf v a)) (pourOf n g) (fun w => w = (if v.2.2.2.1 = true then hereOf v a % wholeOf v else 0, pourOf n (g ++ tipPours v a))) := by
    unfold m_tipped_out
    simp only [tot_bnd, tot_ret, tot_zm, tot_nw, tot_rb, tot_fzL, tot_drL, tot_gtLS, tot_upLS, tot_lft, tot_gtL, tot_upL, tot_bif, tot_some, tot_rtF, ex_some, ex_someT, and_true, true_and, implies_true, few0, few1, few2, few3, tot_zmI, tot_wp, tot_psh, tot_pshL, tot_gtI, tot_upI, tot_bndX, tot_tryM, tot_tryO, tot_tryR, chk_ok (show v.2.2.1.length < lim by show _ < 1000000; omega)]
    refine tot_mp_fn (fun x => x.2) (fun x _ s1 => by simp only [tot_bnd, tot_ret, tot_zm, tot_nw, tot_rb, tot_fzL, tot_drL, tot_gtLS, tot_upLS, tot_lft, tot_gtL, tot_upL, tot_bif, tot_some, tot_rtF, ex_some, ex_someT, and_true, true_and, implies_true, few0, few1, few2, few3, tot_zmI, tot_wp, tot_psh, tot_pshL, tot_gtI, tot_upI, tot_bndX, tot_tryM, tot_tryO, tot_tryR]) ?_
    show ∃ b, dvm (hereOf v a, wholeOf v) = some b ∧ _
    rw [dvm_ok (by omega) (by omega), ex_some]
    refine tot_fd (fun pre _ s1 => s1 = pourOf n (g ++ pre.map (fun o => (o.1, hereOf v a / wholeOf v * o.2)))) (by simp) ?_ ?_
    · rintro pre x post z s1 e rfl
      have hx : OutOk n x := h.outs x (by rw [e]; simp)
      simp only [tot_bnd, tot_ret, tot_zm, tot_nw, tot_rb, tot_fzL, tot_drL, tot_gtLS, tot_upLS, tot_lft, tot_gtL, tot_upL, tot_bif, tot_some, tot_rtF, ex_some, ex_someT, and_true, true_and, implies_true, few0, few1, few2, few3, tot_zmI, tot_wp, tot_psh, tot_pshL, tot_gtI, tot_upI, tot_bndX, tot_tryM, tot_tryO, tot_tryR, mulI_ok (i := hereOf v a / wholeOf v) (j := x.2) (Or.inr ⟨by have := hx.2; omega, by have := hx.2; omega⟩)]
      exact ⟨_, give_ok hx.1, by simp⟩
    · rintro z s1 rfl
      simp only [tot_bnd, tot_ret, tot_zm, tot_nw, tot_rb, tot_fzL, tot_drL, tot_gtLS, tot_upLS, tot_lft, tot_gtL, tot_upL, tot_bif, tot_some, tot_rtF, ex_some, ex_someT, and_true, true_and, implies_true, few0, few1, few2, few3, tot_zmI, tot_wp, tot_psh, tot_pshL, tot_gtI, tot_upI, tot_bndX, tot_tryM, tot_tryO, tot_tryR]
      refine ⟨fun e => by rw [if_pos e]; simp [tipPours, e], fun e => ?_⟩
      refine ⟨_, give_ok (fun _ q => by cases q), ?_⟩
      rw [if_neg (by rw [e]; decide)]
      simp [tipPours, e]
  obtain ⟨w, e, rfl⟩ := e
  exact e

/-! doors and ticks -/
def actF (d : List Bool) (a : Act) : List Bool := d.set a.2.toNat (if a.1 = "turn" then !d.getD a.2.toNat false else decide (a.1 = "open"))
def vesF (net : Net) (d : List Bool) (t : Int) : List Bool := (net.1.getD t.toNat v0).2.2.2.2.2.foldl actF d
def doorsS (net : Net) (d : List Bool) (ts : List Int) : List Bool := ts.foldl (vesF net) d
theorem foldl_len {α β : Type} {f : List β → α → List β} (h : ∀ d a, (f d a).length = d.length) (xs : List α) : ∀ d, (xs.foldl f d).length = d.length := by
  induction xs with
  | nil => intro d; rfl
  | cons x xs ih => intro d; rw [List.foldl_cons, ih, h]
theorem actF_len (d : List Bool) (a : Act) : (actF d a).length = d.length := by simp [actF]
theorem vesF_len (net : Net) (d : List Bool) (t : Int) : (vesF net d t).length = d.length := foldl_len actF_len _ _
theorem doorsS_len (net : Net) (d : List Bool) (ts : List Int) : (doorsS net d ts).length = d.length := foldl_len (vesF_len net) _ _
theorem ves_at {net : Net} (h : NetOk net) {t : Int} (h0 : 0 ≤ t) (h1 : t < net.1.length) : VesOk t net.1.length net.2.length (net.1.getD t.toNat v0) := by
  have := h.ves t.toNat _ (get_at v0 (show t.toNat < net.1.length by omega))
  rwa [Int.toNat_of_nonneg h0] at this
theorem doors_ok {net : Net} {d : List Bool} {ts : List Int} (h : NetOk net) (hd : d.length = net.2.length) (ht : ∀ t ∈ ts, 0 ≤ t ∧ t < net.1.length) : m_doors_behind net d ts = some (doorsS net d ts) := by
  unfold m_doors_behind
  rw [tot_rn]
  simp only [tot_bnd, tot_ret, tot_zm, tot_nw, tot_rb, tot_fzL, tot_drL, tot_gtLS, tot_upLS, tot_lft, tot_gtL, tot_upL, tot_bif, tot_some, tot_rtF, ex_some, ex_someT, and_true, true_and, implies_true, few0, few1, few2, few3, tot_zmI, tot_wp, tot_psh, tot_pshL, tot_gtI, tot_upI, tot_bndX, tot_tryM, tot_tryO, tot_tryR]
  refine tot_fd (fun pre _ s1 => s1.2 = doorsS net d pre) rfl ?_ ?_
  · intro pre x post z s1 e i
    have hx := ht x (by rw [e]; simp)
    have hv := ves_at h hx.1 hx.2
    simp only [tot_bnd, tot_ret, tot_zm, tot_nw, tot_rb, tot_fzL, tot_drL, tot_gtLS, tot_upLS, tot_lft, tot_gtL, tot_upL, tot_bif, tot_some, tot_rtF, ex_some, ex_someT, and_true, true_and, implies_true, few0, few1, few2, few3, tot_zmI, tot_wp, tot_psh, tot_pshL, tot_gtI, tot_upI, tot_bndX, tot_tryM, tot_tryO, tot_tryR, atI_dI v0 hx.1 hx.2]
    refine tot_fd (fun pre2 _ s2 => s2.2 = pre2.foldl actF s1.2) rfl ?_ ?_
    · intro pre2 a post2 z2 s2 e2 i2
      have ha := hv.acts a (by rw [e2]; simp)
      have hl : s2.2.length = net.2.length := by rw [i2, foldl_len actF_len, i, doorsS_len, hd]
      have hl2 : a.2 < s2.2.length := by rw [hl]; exact ha.2.2
      simp only [tot_bnd, tot_ret, tot_zm, tot_nw, tot_rb, tot_fzL, tot_drL, tot_gtLS, tot_upLS, tot_lft, tot_gtL, tot_upL, tot_bif, tot_some, tot_rtF, ex_some, ex_someT, and_true, true_and, implies_true, few0, few1, few2, few3, tot_zmI, tot_wp, tot_psh, tot_pshL, tot_gtI, tot_upI, tot_bndX, tot_tryM, tot_tryO, tot_tryR, atI_dI false ha.2.1 hl2, setI_ok ha.2.1 hl2, List.foldl_append, ← i2]
      refine ⟨fun e => ?_, fun e => ?_⟩
      · show _ = actF s2.2 a
        rw [actF, if_pos (of_decide_eq_true e)]
      · show _ = actF s2.2 a
        rw [actF, if_neg (of_decide_eq_false e)]
    · intro z2 s2 i2
      simp only [i2, i, doorsS, List.foldl_append]
      rfl
  · intro z s1 i
    exact i
section
variable (net : Net) (has : List Int) (stuck : Option Int)
def staysS (j : Nat) : List Int := (List.range j).map fun k => stayOf (net.1.getD k v0) (has.getD k 0) k stuck
def poursS (j : Nat) : List (Option Int × Int) := (List.range j).flatMap fun k => pours (net.1.getD k v0) (has.getD k 0) k stuck
def tippedS (j : Nat) : List Int := ((List.range j).filter fun k => tipsOf (net.1.getD k v0) (has.getD k 0) k stuck).map fun (k : Nat) => (k : Int)
theorem stays_succ (j : Nat) : staysS net has stuck (j + 1) = staysS net has stuck j ++ [stayOf (net.1.getD j v0) (has.getD j 0) j stuck] := by simp [staysS, List.range_succ]
theorem pours_succ (j : Nat) : poursS net has stuck (j + 1) = poursS net has stuck j ++ pours (net.1.getD j v0) (has.getD j 0) j stuck := by simp [poursS, List.range_succ]
theorem tipped_succ (j : Nat) : tippedS net has stuck (j + 1) = tippedS net has stuck j ++ (if tipsOf (net.1.getD j v0) (has.getD j 0) j stuck = true then [(j : Int)] else []) := by
  unfold tippedS
  rw [List.range_succ, List.filter_append, List.map_append]
  congr 1
  rw [List.filter_cons, List.filter_nil]
  split <;> rfl
theorem tipped_lt {j : Nat} : ∀ t ∈ tippedS net has stuck j, 0 ≤ t ∧ t < j := by
  intro t ht
  obtain ⟨k, hk, rfl⟩ := List.mem_map.mp ht
  have := (List.mem_filter.mp hk).1
  simp at this
  omega
theorem stays_len (j : Nat) : (staysS net has stuck j).length = j := by simp [staysS]
theorem tipped_len (j : Nat) : (tippedS net has stuck j).length ≤ j := by
  unfold tippedS
  rw [List.length_map]
  exact Nat.le_trans (List.length_filter_le _ _) (by simp)
end
def tickS (net : Net) (st : State) (p : List Int) (stuck : Option Int) : State × List Int × Int :=
  ((staysS net (filledS net st p) stuck net.1.length, laterOf net.1.length (poursS net (filledS net st p) stuck net.1.length), doorsS net st.2.2 (tippedS net (filledS net st p) stuck net.1.length)),
    tippedS net (filledS net st p) stuck net.1.length, amt none (poursS net (filledS net st p) stuck net.1.length))
theorem tickS_ok {net : Net} {st : State} (p : List Int) (stuck : Option Int) (hs : StOk net st) : StOk net (tickS net st p stuck).1 := ⟨stays_len _ _ _ _, laterOf_len _ _, by rw [← hs.doors]; exact doorsS_len _ _ _⟩
theorem pour_zero {n : Nat} {g : List (Option Int × Int)} {t : Option Int} : pourOf n (g ++ [(t, 0)]) = pourOf n g := by
  have e : ∀ u, amt u (g ++ [(t, 0)]) = amt u g := fun u => by rw [amt_app, amt_one]; simp
  show (laterOf n _, amt none _) = (laterOf n g, amt none g)
  unfold laterOf
  simp only [e]
theorem pourNew_ok {n : Nat} (h : n < 1000) : pourNew (n : Int) = some (pourOf n []) := by
  unfold pourNew
  rw [repL_ok h (by simp), rep_flat]
  show some (_, _) = some (laterOf n [], amt none [])
  unfold laterOf
  simp only [amt_nil]
  rw [List.map_const', List.length_range]
theorem tick_with_ok {net : Net} {st : State} {p : List Int} {stuck : Option Int} (h : NetOk net) (hs : StOk net st) (hp : p.length = net.1.length) :
    m_tick_with net st p stuck = some ((tickS net st p stuck).1, (tickS net st p stuck).2.1, (tickS net st p stuck).2.2, p.sum + flowS net st net.2.length) := by
  have hn1 := h.n1
  have hn2 := h.n2
  have hfl := filledS_len net st p
  unfold m_tick_with
  rw [tot_rn]
  simp only [tot_bnd, tot_ret, tot_zm, tot_nw, tot_rb, tot_fzL, tot_drL, tot_gtLS, tot_upLS, tot_lft, tot_gtL, tot_upL, tot_bif, tot_some, tot_rtF, ex_some, ex_someT, and_true, true_and, implies_true, few0, few1, few2, few3, tot_zmI, tot_wp, tot_psh, tot_pshL, tot_gtI, tot_upI, tot_bndX, tot_tryM, tot_tryO, tot_tryR, filled_ok h hs hp, pourNew_ok (show net.1.length < 1000 by omega)]
  generalize hg : filledS net st p = has at hfl ⊢
  refine tot_fd_enum (fun j _ s1 => s1.1.1.2 = pourOf net.1.length (poursS net has stuck j) ∧ s1.1.2 = staysS net has stuck j ∧ s1.2 = tippedS net has stuck j) ⟨rfl, rfl, rfl⟩ ?_ ?_
  · rintro k v z ⟨⟨⟨u, s1⟩, s2⟩, s3⟩ hx ⟨i1, i2, i3⟩
    dsimp only at i1 i2 i3
    have hk : k < net.1.length := (List.getElem?_eq_some_iff.mp hx).1
    have ev : net.1.getD k v0 = v := getD_of hx
    have hv := h.ves k v hx
    have htg : TgOk net.1.length v.2.2.2.2.1 := fun t e => by have := hv.spill t e; omega
    refine tot_seq (has.getD k 0) (((u, s1), s2), s3) (by simp only [tot_bnd, tot_ret, tot_zm, tot_nw, tot_rb, tot_fzL, tot_drL, tot_gtLS, tot_upLS, tot_lft, tot_gtL, tot_upL, tot_bif, tot_some, tot_rtF, ex_some, ex_someT, and_true, true_and, implies_true, few0, few1, few2, few3, tot_zmI, tot_wp, tot_psh, tot_pshL, tot_gtI, tot_upI, tot_bndX, tot_tryM, tot_tryO, tot_tryR, atI_d 0 (show k < has.length by omega)]) ?_
    generalize ha : has.getD k 0 = a
    refine tot_seq (hereOf v a) (((u, pourOf net.1.length (poursS net has stuck k ++ [(v.2.2.2.2.1, a - hereOf v a)])), s2), s3) ?_ ?_
    · simp only [tot_bnd, tot_ret, tot_zm, tot_nw, tot_rb, tot_fzL, tot_drL, tot_gtLS, tot_upLS, tot_lft, tot_gtL, tot_upL, tot_bif, tot_some, tot_rtF, ex_some, ex_someT, and_true, true_and, implies_true, few0, few1, few2, few3, tot_zmI, tot_wp, tot_psh, tot_pshL, tot_gtI, tot_upI, tot_bndX, tot_tryM, tot_tryO, tot_tryR]
      refine ⟨fun e => ?_, fun e => ?_⟩
      · have e1 : hereOf v a = v.2.1 := if_pos (of_decide_eq_true e)
        rw [i1, e1]
        exact ⟨_, give_ok htg, rfl⟩
      · have e1 : hereOf v a = a := if_neg (of_decide_eq_false e)
        rw [e1, Int.sub_self, pour_zero, i1]
    refine tot_seq (stayOf v a k stuck) (((u, pourOf net.1.length (poursS net has stuck (k + 1))), s2), tippedS net has stuck (k + 1)) ?_ ?_
    · rw [pours_succ, tipped_succ, ev, ha]
      refine tot_seq (tipsOf v a k stuck) (((u, pourOf net.1.length (poursS net has stuck k ++ [(v.2.2.2.2.1, a - hereOf v a)])), s2), s3) ?_ ?_
      · simp only [tot_bnd, tot_ret, tot_zm, tot_nw, tot_rb, tot_fzL, tot_drL, tot_gtLS, tot_upLS, tot_lft, tot_gtL, tot_upL, tot_bif, tot_some, tot_rtF, ex_some, ex_someT, and_true, true_and, implies_true, few0, few1, few2, few3, tot_zmI, tot_wp, tot_psh, tot_pshL, tot_gtI, tot_upI, tot_bndX, tot_tryM, tot_tryO, tot_tryR]
        refine ⟨fun e => ?_, fun e => ?_⟩
        · unfold tipsOf; rw [e]; rfl
        · unfold tipsOf; rw [e]; rfl
      simp only [tot_bnd, tot_ret, tot_zm, tot_nw, tot_rb, tot_fzL, tot_drL, tot_gtLS, tot_upLS, tot_lft, tot_gtL, tot_upL, tot_bif, tot_some, tot_rtF, ex_some, ex_someT, and_true, true_and, implies_true, few0, few1, few2, few3, tot_zmI, tot_wp, tot_psh, tot_pshL, tot_gtI, tot_upI, tot_bndX, tot_tryM, tot_tryO, tot_tryR]
      refine ⟨fun e => ⟨_, tipped_ok hv, ?_⟩, fun e => ?_⟩
      · dsimp only
        rw [T.app_ok (by rw [i3]; have := tipped_len net has stuck k; show _ < 1000000; omega), ex_some]
        simp only [stayOf, pours, e, if_true, i3, List.append_assoc, List.singleton_append]
      · simp only [stayOf, pours, e, i3, List.append_nil, Bool.false_eq_true, if_false]
    simp only [tot_bnd, tot_ret, tot_zm, tot_nw, tot_rb, tot_fzL, tot_drL, tot_gtLS, tot_upLS, tot_lft, tot_gtL, tot_upL, tot_bif, tot_some, tot_rtF, ex_some, ex_someT, and_true, true_and, implies_true, few0, few1, few2, few3, tot_zmI, tot_wp, tot_psh, tot_pshL, tot_gtI, tot_upI, tot_bndX, tot_tryM, tot_tryO, tot_tryR]
    rw [T.app_ok (by rw [i2, stays_len]; show _ < 1000000; omega), ex_some]
    show s2 ++ _ = _
    rw [stays_succ, ev, ha, i2]
  · rintro z ⟨⟨⟨u, s1⟩, s2⟩, s3⟩ ⟨i1, i2, i3⟩
    dsimp only at i1 i2 i3
    subst i1 i2 i3
    simp only [tot_bnd, tot_ret, tot_zm, tot_nw, tot_rb, tot_fzL, tot_drL, tot_gtLS, tot_upLS, tot_lft, tot_gtL, tot_upL, tot_bif, tot_some, tot_rtF, ex_some, ex_someT, and_true, true_and, implies_true, few0, few1, few2, few3, tot_zmI, tot_wp, tot_psh, tot_pshL, tot_gtI, tot_upI, tot_bndX, tot_tryM, tot_tryO, tot_tryR]
    rw [doors_ok h hs.doors (tipped_lt net has stuck)]
    simp only [tot_bnd, tot_ret, tot_zm, tot_nw, tot_rb, tot_fzL, tot_drL, tot_gtLS, tot_upLS, tot_lft, tot_gtL, tot_upL, tot_bif, tot_some, tot_rtF, ex_some, ex_someT, and_true, true_and, implies_true, few0, few1, few2, few3, tot_zmI, tot_wp, tot_psh, tot_pshL, tot_gtI, tot_upI, tot_bndX, tot_tryM, tot_tryO, tot_tryR]
    unfold tickS
    rw [hg]

/-! the law's own tick -/
theorem isN (o : Option Int) : o.isNone = decide (o = none) := by cases o <;> rfl
theorem idx_act {m : Int} {a : Act} (h : ActOk m a) (b : Bool) : ∃ i, idxO [("turn" : Str), "open", "shut"] a.1 = some i ∧ atI [!b, true, false] i = some (if a.1 = "turn" then !b else decide (a.1 = "open")) := by
  rcases h.1 with e | e | e
  · rw [e]
    exact ⟨1, by decide +kernel, by
      rw [if_neg (by decide +kernel)]
      show some true = _
      rw [decide_eq_true rfl]⟩
  · rw [e]
    exact ⟨2, by decide +kernel, by
      rw [if_neg (by decide +kernel)]
      show some false = _
      rw [decide_eq_false (by decide +kernel)]⟩
  · rw [e]
    exact ⟨0, by decide +kernel, by
      rw [if_pos rfl]
      rfl⟩
theorem law_tick_ok {net : Net} {st : State} {p : List Int} {stuck : Option Int} (h : NetOk net) (hs : StOk net st) (hp : p.length = net.1.length) :
    m_law_tick net st p stuck = some (tickS net st p stuck) := by
  have hn1 := h.n1
  have hn2 := h.n2
  have hfl := filledS_len net st p
  unfold m_law_tick
  rw [tot_rn]
  simp only [tot_bnd, tot_ret, tot_zm, tot_nw, tot_rb, tot_fzL, tot_drL, tot_gtLS, tot_upLS, tot_lft, tot_gtL, tot_upL, tot_bif, tot_some, tot_rtF, ex_some, ex_someT, and_true, true_and, implies_true, few0, few1, few2, few3, tot_zmI, tot_wp, tot_psh, tot_pshL, tot_gtI, tot_upI, tot_bndX, tot_tryM, tot_tryO, tot_tryR, law_filled_ok h hs hp, rng_ok (show net.1.length ≤ 1000000 by omega)]
  generalize hg : filledS net st p = has at hfl ⊢
  refine tot_fd_rng (fun j _ s1 => s1.1.1.2 = poursS net has stuck j ∧ s1.1.2 = tippedS net has stuck j ∧ s1.2 = staysS net has stuck j ∧ (poursS net has stuck j).length ≤ 5 * j) ⟨rfl, rfl, rfl, Nat.le_refl _⟩ ?_ ?_
  · rintro k z ⟨⟨⟨u, s1⟩, s2⟩, s3⟩ hk ⟨i1, i2, i3, i4⟩
    dsimp only at i1 i2 i3
    have hx := get_at v0 hk
    generalize hv0 : net.1.getD k v0 = v at hx
    have hv := h.ves k v hx
    refine tot_seq v (((u, s1), s2), s3) (by simp only [tot_bnd, tot_ret, tot_zm, tot_nw, tot_rb, tot_fzL, tot_drL, tot_gtLS, tot_upLS, tot_lft, tot_gtL, tot_upL, tot_bif, tot_some, tot_rtF, ex_some, ex_someT, and_true, true_and, implies_true, few0, few1, few2, few3, tot_zmI, tot_wp, tot_psh, tot_pshL, tot_gtI, tot_upI, tot_bndX, tot_tryM, tot_tryO, tot_tryR, atI_d v0 hk, hv0]) ?_
    generalize ha : has.getD k 0 = a
    have hak : atI has (k : Int) = some a := by rw [atI_d 0 (show k < has.length by omega), ha]
    refine tot_seq (hereOf v a) (((u, s1), s2), s3) (by simp only [tot_bnd, tot_ret, tot_zm, tot_nw, tot_rb, tot_fzL, tot_drL, tot_gtLS, tot_upLS, tot_lft, tot_gtL, tot_upL, tot_bif, tot_some, tot_rtF, ex_some, ex_someT, and_true, true_and, implies_true, few0, few1, few2, few3, tot_zmI, tot_wp, tot_psh, tot_pshL, tot_gtI, tot_upI, tot_bndX, tot_tryM, tot_tryO, tot_tryR, hak]; rfl) ?_
    have hl5 : (pours v a k stuck).length ≤ 5 := by
      have := hv.outs3
      unfold pours tipPours
      rw [List.length_cons]
      split
      · rw [List.length_append, List.length_map]
        split <;> simp <;> omega
      · simp
    simp only [tot_bnd, tot_ret, tot_zm, tot_nw, tot_rb, tot_fzL, tot_drL, tot_gtLS, tot_upLS, tot_lft, tot_gtL, tot_upL, tot_some, tot_rtF, ex_some, ex_someT, and_true, true_and, implies_true, few0, few1, few2, few3, tot_zmI, tot_wp, tot_psh, tot_pshL, tot_gtI, tot_upI, tot_bndX, tot_tryM, tot_tryO, tot_tryR, hak]
    rw [T.app_ok (by rw [i1]; show _ < 1000000; omega), ex_some]
    refine Tot.mono (Q := fun w => w = (tipsOf v a k stuck, (((u, s1 ++ [(v.2.2.2.2.1, a - hereOf v a)]), s2), s3))) ?_ ?_
    · simp only [tot_bnd, tot_ret, tot_zm, tot_nw, tot_rb, tot_fzL, tot_drL, tot_gtLS, tot_upLS, tot_lft, tot_gtL, tot_upL, tot_bif, tot_some, tot_rtF, ex_some, ex_someT, and_true, true_and, implies_true, few0, few1, few2, few3, tot_zmI, tot_wp, tot_psh, tot_pshL, tot_gtI, tot_upI, tot_bndX, tot_tryM, tot_tryO, tot_tryR]
      refine ⟨fun e => ?_, fun e => ?_⟩
      · unfold tipsOf; rw [e]; rfl
      · unfold tipsOf; rw [e]; rfl
    rintro _ rfl
    refine Tot.mono (Q := fun w => w = (stayOf v a k stuck, (((u, poursS net has stuck (k + 1)), tippedS net has stuck (k + 1)), s3))) ?_ ?_
    · rw [pours_succ, tipped_succ, hv0, ha, tot_bif]
      refine ⟨fun e => ?_, fun e => ?_⟩
      · dsimp only at e
        have hw := whole_pos hv
        have ho3 := hv.outs3
        simp only [tot_bnd, tot_ret, tot_zm, tot_nw, tot_rb, tot_fzL, tot_drL, tot_gtLS, tot_upLS, tot_lft, tot_gtL, tot_upL, tot_some, tot_rtF, ex_some, ex_someT, and_true, true_and, implies_true, few0, few1, few2, few3, tot_zmI, tot_wp, tot_psh, tot_pshL, tot_gtI, tot_upI, tot_bndX, tot_tryM, tot_tryO, tot_tryR, chk_ok (show v.2.2.1.length < lim by show _ < 1000000; omega)]
        refine tot_mp_fn (fun x => x.2) (fun x _ s1 => by simp only [tot_bnd, tot_ret, tot_zm, tot_nw, tot_rb, tot_fzL, tot_drL, tot_gtLS, tot_upLS, tot_lft, tot_gtL, tot_upL, tot_bif, tot_some, tot_rtF, ex_some, ex_someT, and_true, true_and, implies_true, few0, few1, few2, few3, tot_zmI, tot_wp, tot_psh, tot_pshL, tot_gtI, tot_upI, tot_bndX, tot_tryM, tot_tryO, tot_tryR]) ?_
        dsimp only
        refine tot_mp_fn (fun o => (o.1, hereOf v a / wholeOf v * o.2)) (fun x hx s1 => ?_) ?_
        · have hxo := (hv.outs x hx).2
          show Tot _ _ _
          rw [show (v.2.2.1.map fun x => x.2).sum = wholeOf v from rfl]
          simp only [tot_bnd, tot_ret, tot_zm, tot_nw, tot_rb, tot_fzL, tot_drL, tot_gtLS, tot_upLS, tot_lft, tot_gtL, tot_upL, tot_bif, tot_some, tot_rtF, ex_some, ex_someT, and_true, true_and, implies_true, few0, few1, few2, few3, tot_zmI, tot_wp, tot_psh, tot_pshL, tot_gtI, tot_upI, tot_bndX, tot_tryM, tot_tryO, tot_tryR, divI_ok (i := hereOf v a) (j := wholeOf v) (by omega) (by omega), mulI_ok (i := hereOf v a / wholeOf v) (j := x.2) (Or.inr ⟨by omega, by omega⟩)]
        rw [show (v.2.2.1.map fun x => x.2).sum = wholeOf v from rfl]
        rw [catL_ok (by rw [i1]; simp; show _ < 1000000; omega), ex_some]
        simp only [tot_bnd, tot_ret, tot_zm, tot_nw, tot_rb, tot_fzL, tot_drL, tot_gtLS, tot_upLS, tot_lft, tot_gtL, tot_upL, tot_some, tot_rtF, ex_some, ex_someT, and_true, true_and, implies_true, few0, few1, few2, few3, tot_zmI, tot_wp, tot_psh, tot_pshL, tot_gtI, tot_upI, tot_bndX, tot_tryM, tot_tryO, tot_tryR]
        rw [modI_ok (by omega), ex_some, T.app_ok (by rw [i2]; have := tipped_len net has stuck k; show _ < 1000000; omega), ex_some]
        simp only [tot_bnd, tot_ret, tot_zm, tot_nw, tot_rb, tot_fzL, tot_drL, tot_gtLS, tot_upLS, tot_lft, tot_gtL, tot_upL, tot_bif, tot_some, tot_rtF, ex_some, ex_someT, and_true, true_and, implies_true, few0, few1, few2, few3, tot_zmI, tot_wp, tot_psh, tot_pshL, tot_gtI, tot_upI, tot_bndX, tot_tryM, tot_tryO, tot_tryR]
        refine ⟨fun e2 => ?_, fun e2 => ?_⟩
        · have e3 : v.2.2.2.1 = false := by simpa using e2
          rw [T.app_ok (by rw [i1]; simp; show _ < 1000000; omega), ex_some]
          simp only [stayOf, pours, tipPours, e, e3, i1, i2, if_true, Bool.false_eq_true, if_false, List.append_assoc, List.singleton_append, List.cons_append, List.nil_append]
        · have e3 : v.2.2.2.1 = true := by simpa using e2
          simp only [stayOf, pours, tipPours, e, e3, i1, i2, if_true, List.append_assoc, List.singleton_append, List.cons_append, List.nil_append, List.append_nil]
      · dsimp only at e
        simp only [tot_bnd, tot_ret, tot_zm, tot_nw, tot_rb, tot_fzL, tot_drL, tot_gtLS, tot_upLS, tot_lft, tot_gtL, tot_upL, tot_bif, tot_some, tot_rtF, ex_some, ex_someT, and_true, true_and, implies_true, few0, few1, few2, few3, tot_zmI, tot_wp, tot_psh, tot_pshL, tot_gtI, tot_upI, tot_bndX, tot_tryM, tot_tryO, tot_tryR, stayOf, pours, e, i1, i2, List.append_nil, Bool.false_eq_true, if_false]
    rintro _ rfl
    dsimp only
    rw [T.app_ok (by rw [i3, stays_len]; show _ < 1000000; omega), ex_some]
    refine ⟨rfl, rfl, ?_, ?_⟩
    · rw [stays_succ, hv0, ha, i3]
    · rw [pours_succ, hv0, ha, List.length_append]; omega
  · rintro z ⟨⟨⟨u, s1⟩, s2⟩, s3⟩ ⟨i1, i2, i3, i4⟩
    dsimp only at i1 i2 i3
    subst i1 i2 i3
    simp only [tot_bnd, tot_ret, tot_zm, tot_nw, tot_rb, tot_fzL, tot_drL, tot_gtLS, tot_upLS, tot_lft, tot_gtL, tot_upL, tot_bif, tot_some, tot_rtF, ex_some, ex_someT, and_true, true_and, implies_true, few0, few1, few2, few3, tot_zmI, tot_wp, tot_psh, tot_pshL, tot_gtI, tot_upI, tot_bndX, tot_tryM, tot_tryO, tot_tryR]
    refine tot_fd (fun pre _ s1 => s1 = (((), staysS net has stuck net.1.length), doorsS net st.2.2 pre)) rfl ?_ ?_
    · rintro pre x post z s1 e rfl
      have hx := tipped_lt net has stuck x (by rw [e]; simp)
      have hv := ves_at h hx.1 hx.2
      simp only [tot_bnd, tot_ret, tot_zm, tot_nw, tot_rb, tot_fzL, tot_drL, tot_gtLS, tot_upLS, tot_lft, tot_gtL, tot_upL, tot_bif, tot_some, tot_rtF, ex_some, ex_someT, and_true, true_and, implies_true, few0, few1, few2, few3, tot_zmI, tot_wp, tot_psh, tot_pshL, tot_gtI, tot_upI, tot_bndX, tot_tryM, tot_tryO, tot_tryR, atI_dI v0 hx.1 hx.2]
      refine tot_fd (fun pre2 _ s2 => s2 = (((), staysS net has stuck net.1.length), pre2.foldl actF (doorsS net st.2.2 pre))) rfl ?_ ?_
      · rintro pre2 a post2 z2 s2 e2 rfl
        have ha := hv.acts a (by rw [e2]; simp)
        have hl : (pre2.foldl actF (doorsS net st.2.2 pre)).length = net.2.length := by rw [foldl_len actF_len, doorsS_len, hs.doors]
        have hl2 : a.2 < (pre2.foldl actF (doorsS net st.2.2 pre)).length := by rw [hl]; exact ha.2.2
        obtain ⟨i, hi1, hi2⟩ := idx_act ha ((pre2.foldl actF (doorsS net st.2.2 pre)).getD a.2.toNat false)
        simp only [tot_bnd, tot_ret, tot_zm, tot_nw, tot_rb, tot_fzL, tot_drL, tot_gtLS, tot_upLS, tot_lft, tot_gtL, tot_upL, tot_bif, tot_some, tot_rtF, ex_some, ex_someT, and_true, true_and, implies_true, few0, few1, few2, few3, tot_zmI, tot_wp, tot_psh, tot_pshL, tot_gtI, tot_upI, tot_bndX, tot_tryM, tot_tryO, tot_tryR, atI_dI false ha.2.1 hl2, hi1, hi2, setI_ok ha.2.1 hl2, List.foldl_append]
        rfl
      · rintro z2 s2 rfl
        simp only [doorsS, List.foldl_append]
        rfl
    · rintro z s1 rfl
      simp only [tot_bnd, tot_ret, tot_zm, tot_nw, tot_rb, tot_fzL, tot_drL, tot_gtLS, tot_upLS, tot_lft, tot_gtL, tot_upL, tot_bif, tot_some, tot_rtF, ex_some, ex_someT, and_true, true_and, implies_true, few0, few1, few2, few3, tot_zmI, tot_wp, tot_psh, tot_pshL, tot_gtI, tot_upI, tot_bndX, tot_tryM, tot_tryO, tot_tryR, chk_ok (show (rngL 0 net.1.length).length < lim by rw [rngL_len]; show _ < 1000000; omega), chk_ok (show (poursS net has stuck net.1.length).length < lim by show _ < 1000000; omega)]
      refine tot_mp_rng (fun k => amt (some (k : Int)) (poursS net has stuck net.1.length)) (fun k hk s1 => ?_) ?_
      · simp only [tot_bnd, tot_ret, tot_zm, tot_nw, tot_rb, tot_fzL, tot_drL, tot_gtLS, tot_upLS, tot_lft, tot_gtL, tot_upL, tot_bif, tot_some, tot_rtF, ex_some, ex_someT, and_true, true_and, implies_true, few0, few1, few2, few3, tot_zmI, tot_wp, tot_psh, tot_pshL, tot_gtI, tot_upI, tot_bndX, tot_tryM, tot_tryO, tot_tryR, chk_ok (show (poursS net has stuck net.1.length).length < lim by show _ < 1000000; omega)]
        refine tot_mpf_fn (fun (x : Option Int × Int) => decide (x.1 = some (k : Int))) (fun x => x.2) (fun x _ s1 => by simp only [tot_bnd, tot_ret, tot_zm, tot_nw, tot_rb, tot_fzL, tot_drL, tot_gtLS, tot_upLS, tot_lft, tot_gtL, tot_upL, tot_bif, tot_some, tot_rtF, ex_some, ex_someT, and_true, true_and, implies_true, few0, few1, few2, few3, tot_zmI, tot_wp, tot_psh, tot_pshL, tot_gtI, tot_upI, tot_bndX, tot_tryM, tot_tryO, tot_tryR]) (fun x _ s1 => by simp only [tot_bnd, tot_ret, tot_zm, tot_nw, tot_rb, tot_fzL, tot_drL, tot_gtLS, tot_upLS, tot_lft, tot_gtL, tot_upL, tot_bif, tot_some, tot_rtF, ex_some, ex_someT, and_true, true_and, implies_true, few0, few1, few2, few3, tot_zmI, tot_wp, tot_psh, tot_pshL, tot_gtI, tot_upI, tot_bndX, tot_tryM, tot_tryO, tot_tryR]) ?_
        rfl
      refine tot_mpf_fn (fun (x : Option Int × Int) => x.1.isNone) (fun x => x.2) (fun x _ s1 => by simp only [tot_bnd, tot_ret, tot_zm, tot_nw, tot_rb, tot_fzL, tot_drL, tot_gtLS, tot_upLS, tot_lft, tot_gtL, tot_upL, tot_bif, tot_some, tot_rtF, ex_some, ex_someT, and_true, true_and, implies_true, few0, few1, few2, few3, tot_zmI, tot_wp, tot_psh, tot_pshL, tot_gtI, tot_upI, tot_bndX, tot_tryM, tot_tryO, tot_tryR]) (fun x _ s1 => by simp only [tot_bnd, tot_ret, tot_zm, tot_nw, tot_rb, tot_fzL, tot_drL, tot_gtLS, tot_upLS, tot_lft, tot_gtL, tot_upL, tot_bif, tot_some, tot_rtF, ex_some, ex_someT, and_true, true_and, implies_true, few0, few1, few2, few3, tot_zmI, tot_wp, tot_psh, tot_pshL, tot_gtI, tot_upI, tot_bndX, tot_tryM, tot_tryO, tot_tryR]) ?_
      simp only [isN]
      unfold tickS
      rw [hg]
      rfl

theorem dry_ok {net : Net} (h : NetOk net) : m_dry net = some (List.replicate net.1.length 0) := by
  have h2 := h.n2
  unfold m_dry
  rw [tot_rn]
  simp only [tot_bnd, tot_ret, tot_zm, tot_nw, tot_rb, tot_fzL, tot_drL, tot_gtLS, tot_upLS, tot_lft, tot_gtL, tot_upL, tot_bif, tot_some, tot_rtF, ex_some, ex_someT, and_true, true_and, implies_true, few0, few1, few2, few3, tot_zmI, tot_wp, tot_psh, tot_pshL, tot_gtI, tot_upI, tot_bndX, tot_tryM, tot_tryO, tot_tryR, chk_ok (show net.1.length < lim by show _ < 1000000; omega)]
  refine tot_mp_fn (fun _ => (0 : Int)) (fun x _ s1 => by simp only [tot_bnd, tot_ret, tot_zm, tot_nw, tot_rb, tot_fzL, tot_drL, tot_gtLS, tot_upLS, tot_lft, tot_gtL, tot_upL, tot_bif, tot_some, tot_rtF, ex_some, ex_someT, and_true, true_and, implies_true, few0, few1, few2, few3, tot_zmI, tot_wp, tot_psh, tot_pshL, tot_gtI, tot_upI, tot_bndX, tot_tryM, tot_tryO, tot_tryR]) ?_
  show List.map _ _ = _
  rw [List.map_const']
abbrev zeroP (net : Net) : List Int := List.replicate net.1.length 0
theorem zeroP_len (net : Net) : (zeroP net).length = net.1.length := List.length_replicate
theorem rep0_ok {n : Nat} (h1 : 1 ≤ n) (h : n ≤ 90) : repT [(0 : Int)] (n : Int) = some (List.replicate n 0) := by
  unfold repT
  dsimp only
  rw [if_pos (by simp; omega), Int.toNat_natCast, rep_flat]


/-! nets that are drawn are nets -/

/-! nets put together, by defs that may raise -/
theorem needX_ok {net : Net} {x : Int} (h0 : 0 ≤ x) (h1 : x < net.1.length) : m_need_vessel net x = some (.inl ()) := by
  unfold m_need_vessel
  rw [tot_rn]
  simp only [tot_bnd, tot_ret, tot_zm, tot_nw, tot_rb, tot_fzL, tot_drL, tot_gtLS, tot_upLS, tot_lft, tot_gtL, tot_upL, tot_bif, tot_some, tot_rtF, ex_some, ex_someT, and_true, true_and, implies_true, few0, few1, few2, few3, tot_zmI, tot_wp, tot_psh, tot_pshL, tot_gtI, tot_upI, tot_bndX, tot_tryM, tot_tryO, tot_tryR]
  have e1 : ¬ x < 0 := by omega
  have e2 : ¬ (net.1.length : Int) ≤ x := by omega
  simp [e1, e2]
theorem needX_no {net : Net} {x : Int} (h : x < 0 ∨ net.1.length ≤ x) : m_need_vessel net x = some (.inr "NoVessel") := by
  unfold m_need_vessel
  rw [tot_rn]
  simp only [tot_bnd, tot_ret, tot_zm, tot_nw, tot_rb, tot_fzL, tot_drL, tot_gtLS, tot_upLS, tot_lft, tot_gtL, tot_upL, tot_bif, tot_some, tot_rtF, ex_some, ex_someT, and_true, true_and, implies_true, few0, few1, few2, few3, tot_zmI, tot_wp, tot_psh, tot_pshL, tot_gtI, tot_upI, tot_bndX, tot_tryM, tot_tryO, tot_tryR]
  by_cases h0 : x < 0
  · simp [h0]
  · have h1 : (net.1.length : Int) ≤ x := by omega
    simp [h0, h1]

/-! sums -/
theorem sum_range_getD (xs : List Int) : ((List.range xs.length).map fun k => xs.getD k 0).sum = xs.sum := by
  congr 1
  refine List.ext_getElem (by simp) fun i h1 h2 => ?_
  simp [h2]
theorem sum_map_add {α : Type} (f g : α → Int) (xs : List α) : (xs.map fun x => f x + g x).sum = (xs.map f).sum + (xs.map g).sum := by
  induction xs with
  | nil => rfl
  | cons x xs ih => simp only [List.map_cons, List.sum_cons, ih]; omega
theorem sum_map_mul {α : Type} (c : Int) (f : α → Int) (xs : List α) : (xs.map fun x => c * f x).sum = c * (xs.map f).sum := by
  induction xs with
  | nil => simp
  | cons x xs ih => simp only [List.map_cons, List.sum_cons, ih, Int.mul_add]
def allOf (g : List (Option Int × Int)) : Int := (g.map (·.2)).sum
theorem allOf_app (g h : List (Option Int × Int)) : allOf (g ++ h) = allOf g + allOf h := by simp [allOf]
theorem later_sum {n : Nat} {g : List (Option Int × Int)} (h : ∀ q ∈ g, TgOk n q.1) : (laterOf n g).sum + amt none g = allOf g := by
  induction g with
  | nil =>
    simp only [laterOf, amt_nil, allOf, List.map_nil, List.sum_nil]
    rw [List.map_const']
    simp
  | cons q g ih =>
    have i := ih fun x hx => h x (List.mem_cons_of_mem _ hx)
    have e : ∀ t, amt t (q :: g) = (if q.1 = t then q.2 else 0) + amt t g := fun t => by
      rw [show q :: g = [q] ++ g from rfl, amt_app]
      obtain ⟨a, b⟩ := q
      rw [amt_one]
    have e2 : allOf (q :: g) = q.2 + allOf g := by simp [allOf]
    have e3 : (laterOf n (q :: g)).sum = ((List.range n).map fun (k : Nat) => if q.1 = some (k : Int) then q.2 else 0).sum + (laterOf n g).sum := by
      unfold laterOf
      rw [← sum_map_add]
      simp only [e]
    have e4 : ((List.range n).map fun (k : Nat) => if q.1 = some (k : Int) then q.2 else 0).sum = if q.1 = none then 0 else q.2 := by
      cases hq : q.1 with
      | none =>
        have : ((List.range n).map fun (k : Nat) => if (none : Option Int) = some (k : Int) then q.2 else 0) = (List.range n).map fun _ => 0 := List.map_congr_left fun k _ => by simp
        rw [this, List.map_const']
        simp
      | some t =>
        have ht := h q List.mem_cons_self t hq
        have : ∀ m : Nat, ((List.range m).map fun (k : Nat) => if (some t : Option Int) = some (k : Int) then q.2 else 0).sum = if t < m then q.2 else 0 := by
          intro m
          induction m with
          | zero => simp; omega
          | succ m ihm =>
            rw [List.range_succ, List.map_append, List.sum_append, ihm]
            simp only [List.map_cons, List.map_nil, List.sum_cons, List.sum_nil, Int.add_zero, Option.some.injEq]
            by_cases c1 : t < (m : Int)
            · rw [if_pos c1, if_neg (by omega), if_pos (by omega)]; omega
            · by_cases c2 : t = (m : Int)
              · rw [if_neg c1, if_pos c2, if_pos (by omega)]; omega
              · rw [if_neg c1, if_neg c2, if_neg (by omega)]; omega
        rw [this n, if_pos ht.2, if_neg (by simp)]
    rw [e3, e4, e none, e2]
    by_cases hq : q.1 = none
    · rw [if_pos hq, if_pos hq]; omega
    · rw [if_neg hq, if_neg hq]; omega
theorem give_sum {k n m : Int} {v : Vessel} (h : VesOk k n m v) (a : Int) (j : Nat) (stuck : Option Int) : stayOf v a j stuck + allOf (pours v a j stuck) = a := by
  have hw := whole_pos h
  have e1 : allOf (pours v a j stuck) = (a - hereOf v a) + allOf (if tipsOf v a j stuck = true then tipPours v a else []) := by simp [pours, allOf]
  rw [e1]
  unfold stayOf
  split
  · have e2 : allOf (tipPours v a) = hereOf v a / wholeOf v * wholeOf v + (if v.2.2.2.1 = true then 0 else hereOf v a % wholeOf v) := by
      unfold tipPours
      rw [allOf_app]
      congr 1
      · unfold allOf
        rw [List.map_map]
        have : ((fun x : Option Int × Int => x.2) ∘ fun o : Out => (o.1, hereOf v a / wholeOf v * o.2)) = fun o : Out => hereOf v a / wholeOf v * o.2 := rfl
        rw [this, sum_map_mul]; rfl
      · split <;> simp [allOf]
    have e3 := Int.mul_ediv_add_emod (hereOf v a) (wholeOf v)
    rw [Int.mul_comm] at e3
    rw [e2]
    split <;> omega
  · show _ + (_ + allOf []) = _
    have : allOf [] = 0 := rfl
    omega
theorem pours_tg {k n m : Nat} {v : Vessel} (h : VesOk k n m v) (a : Int) (j : Nat) (stuck : Option Int) : ∀ q ∈ pours v a j stuck, TgOk n q.1 := by
  intro q hq
  unfold pours at hq
  rcases List.mem_cons.mp hq with rfl | hq
  · exact fun t e => by have := h.spill t e; omega
  · split at hq
    · unfold tipPours at hq
      rcases List.mem_append.mp hq with hq | hq
      · obtain ⟨o, ho, rfl⟩ := List.mem_map.mp hq
        exact (h.outs o ho).1
      · split at hq
        · cases hq
        · obtain rfl := List.mem_singleton.mp hq
          exact fun t e => by cases e
    · cases hq
theorem tick_sum {net : Net} (h : NetOk net) {has : List Int} (hl : has.length = net.1.length) (stuck : Option Int) : has.sum = (staysS net has stuck net.1.length).sum + (laterOf net.1.length (poursS net has stuck net.1.length)).sum + amt none (poursS net has stuck net.1.length) := by
  have tg : ∀ q ∈ poursS net has stuck net.1.length, TgOk net.1.length q.1 := by
    intro q hq
    obtain ⟨k, hk, hq⟩ := List.mem_flatMap.mp hq
    exact pours_tg (h.ves k _ (get_at v0 (List.mem_range.mp hk))) _ _ _ q hq
  rw [Int.add_assoc, later_sum tg, ← sum_range_getD has, hl]
  have go : ∀ j, j ≤ net.1.length → ((List.range j).map fun k => has.getD k 0).sum = (staysS net has stuck j).sum + allOf (poursS net has stuck j) := by
    intro j
    induction j with
    | zero => intro _; rfl
    | succ j ih =>
      intro hj
      rw [stays_succ, pours_succ, allOf_app, List.range_succ, List.map_append, List.sum_append, List.sum_append, ih (by omega)]
      have := give_sum (h.ves j _ (get_at v0 (show j < net.1.length by omega))) (has.getD j 0) j stuck
      simp only [List.map_cons, List.map_nil, List.sum_cons, List.sum_nil]
      omega
  exact go _ (Nat.le_refl _)

/-! sums of a tick -/
theorem sum_addAt (xs : List Int) (k : Nat) (a : Int) (h : k < xs.length) : (addAt xs k a).sum = xs.sum + a := by
  unfold addAt
  induction xs generalizing k with
  | nil => cases h
  | cons x xs ih =>
    cases k with
    | zero => simp; omega
    | succ k =>
      have := ih k (by simpa using h)
      simp only [List.set_cons_succ, List.sum_cons, List.getD_cons_succ] at this ⊢
      omega
theorem baseS_sum {net : Net} {st : State} {p : List Int} (hs : StOk net st) (hp : p.length = net.1.length) : (baseS net st p).sum = st.1.sum + st.2.1.sum + p.sum := by
  unfold baseS
  have e : ∀ k : Nat, st.1.getD k 0 + st.2.1.getD k 0 + p.getD k 0 = (st.1.getD k 0 + st.2.1.getD k 0) + p.getD k 0 := fun _ => rfl
  rw [sum_map_add, sum_map_add]
  have e1 := sum_range_getD st.1
  have e2 := sum_range_getD st.2.1
  have e3 := sum_range_getD p
  rw [hs.held] at e1
  rw [hs.com] at e2
  rw [hp] at e3
  rw [e1, e2, e3]
theorem filled_sum {net : Net} {st : State} {p : List Int} (h : NetOk net) (hs : StOk net st) (hp : p.length = net.1.length) : (filledS net st p).sum = st.1.sum + st.2.1.sum + p.sum + flowS net st net.2.length := by
  have go : ∀ j, j ≤ net.2.length → ((List.range j).foldl (stepF net st) (baseS net st p)).sum = st.1.sum + st.2.1.sum + p.sum + flowS net st j := by
    intro j
    induction j with
    | zero => intro _; show (baseS net st p).sum = _; rw [baseS_sum hs hp]; simp [flowS]
    | succ j ih =>
      intro hj
      have i := ih (by omega)
      have ef : flowS net st (j + 1) = flowS net st j + (if st.2.2.getD j false = true then (net.2.getD j p0).2.1 else 0) := by
        unfold flowS; rw [List.range_succ, List.map_append, List.sum_append]; simp
      rw [List.range_succ, List.foldl_append, ef]
      have hL : ((List.range j).foldl (stepF net st) (baseS net st p)).length = net.1.length := by rw [fold_len, baseS_len]
      show (stepF net st ((List.range j).foldl (stepF net st) (baseS net st p)) j).sum = _
      generalize (List.range j).foldl (stepF net st) (baseS net st p) = has at i hL
      have hj' : j < net.2.length := by omega
      have hsp := h.spo (net.2.getD j p0) (by rw [List.getD_eq_getElem?_getD, List.getElem?_eq_getElem hj']; exact List.getElem_mem hj')
      unfold stepF
      split
      · rw [sum_addAt _ _ _ (by omega), i]; omega
      · rw [i]; omega
  exact go _ (Nat.le_refl _)
theorem flow_filter (net : Net) (st : State) : ∀ n, (((List.range n).filter fun k => st.2.2.getD k false).map (fun k => (net.2.getD k p0).2.1)).sum = flowS net st n := by
  intro n
  induction n with
  | zero => rfl
  | succ n ih =>
    rw [List.range_succ, List.filter_append, List.map_append, List.sum_append, ih]
    unfold flowS
    rw [List.range_succ, List.map_append, List.sum_append]
    congr 1
    rw [List.filter_cons, List.filter_nil, List.map_singleton, List.sum_singleton]
    split
    · simp
    · simp
theorem tick_all {net : Net} {st : State} {p : List Int} (h : NetOk net) (hs : StOk net st) (hp : p.length = net.1.length) (stuck : Option Int) : (tickS net st p stuck).1.1.sum + (tickS net st p stuck).1.2.1.sum + (tickS net st p stuck).2.2 = st.1.sum + st.2.1.sum + p.sum + flowS net st net.2.length := by
  rw [← filled_sum h hs hp, tick_sum h (filledS_len net st p) stuck]; rfl
theorem tot_mpf_rng {S β : Type} {s : S} {p : Int → M S Bool} {f : Int → M S β} {Q : List β × S → Prop} (b : Nat → Bool) (g : Nat → β) {n : Nat} (hp : ∀ k, k < n → ∀ s1, Tot (p (k : Int)) s1 (fun w => w = (b k, s1))) (h : ∀ k, k < n → ∀ s1, Tot (f (k : Int)) s1 (fun w => w = (g k, s1))) (q : Q (((List.range n).filter b).map g, s)) : Tot (mpf p f (rngL 0 n)) s Q := by
  refine tot_mpf_fn (fun i => b i.toNat) (fun i => g i.toNat) (fun x hx s1 => ?_) (fun x hx s1 => ?_) ?_
  · obtain ⟨k, hk⟩ := List.getElem?_of_mem hx
    obtain ⟨rfl, hl⟩ := rngL_at hk
    simpa using hp k hl s1
  · obtain ⟨k, hk⟩ := List.getElem?_of_mem hx
    obtain ⟨rfl, hl⟩ := rngL_at hk
    simpa using h k hl s1
  · have e : ((rngL 0 n).filter fun i => b i.toNat).map (fun i => g i.toNat) = ((List.range n).filter b).map g := by
      rw [rngL_eq, List.filter_map, List.map_map]
      congr 1
      · funext k; simp
      · congr 1
        funext k; simp
    rw [e]; exact q
theorem handR_nn {xs : List Int} {k : Nat} {a : Int} {B : Int} (h : ∀ x ∈ xs, 0 ≤ x ∧ x ≤ B) (h0 : 0 ≤ a) (h1 : a ≤ B) : ∀ x ∈ xs.set k a, 0 ≤ x ∧ x ≤ B := fun x hx => by
  rcases List.mem_or_eq_of_mem_set hx with e | e
  · exact h x e
  · subst e; exact ⟨h0, h1⟩

theorem cut_to {α : Type} {xs : List α} {i : Int} (h0 : 0 ≤ i) : cutV' xs none (some i) = xs.take i.toNat := by
  unfold cutV'
  have e0 : HT.sIx xs.length 0 none = 0 := rfl
  rw [e0, Nat.sub_zero, List.drop_zero]
  have e1 : HT.sIx xs.length xs.length (some i) = min i.toNat xs.length := if_neg (by omega)
  rw [e1]
  by_cases h : i.toNat ≤ xs.length
  · congr 1; omega
  · rw [List.take_of_length_le (by omega), List.take_of_length_le (by omega)]
theorem cut_from {α : Type} {xs : List α} {i : Int} (h0 : 0 ≤ i) : cutV' xs (some i) none = xs.drop i.toNat := by
  unfold cutV'
  have e0 : HT.sIx xs.length xs.length none = xs.length := rfl
  rw [e0]
  have e1 : HT.sIx xs.length 0 (some i) = min i.toNat xs.length := if_neg (by omega)
  rw [e1]
  rw [List.take_of_length_le (by rw [List.length_drop]; omega)]
  by_cases h : i.toNat ≤ xs.length
  · rw [Nat.min_eq_left h]
  · rw [Nat.min_eq_right (by omega), List.drop_of_length_le (Nat.le_refl _), List.drop_of_length_le (by omega)]

/-! how a net goes by itself, and its round -/
def seqS (net : Net) : Nat → State
  | 0 => firstS net
  | k + 1 => (tickS net (seqS net k) (zeroP net) none).1
def tipS (net : Net) (k : Nat) : List Int := (tickS net (seqS net k) (zeroP net) none).2.1
theorem seqS_ok (net : Net) : ∀ k, StOk net (seqS net k)
  | 0 => firstS_ok net
  | k + 1 => tickS_ok _ _ (seqS_ok net k)
def metR (net : Net) (n : Nat) : Option Nat := (List.range n).find? fun k => decide (seqS net k = seqS net n)
def goR (net : Net) : Nat → Nat → Option (Nat × Nat)
  | 0, _ => none
  | f + 1, n => match metR net n with
    | some m => some (m, n)
    | none => goR net f (n + 1)
def roundR (net : Net) : Option (Nat × Nat) := goR net 2001 0
def dictR (net : Net) (n : Nat) : List (State × Int) := (List.range n).map fun (k : Nat) => (seqS net k, (k : Int))
theorem dictR_len (net : Net) (n : Nat) : (dictR net n).length = n := by simp [dictR]
theorem dAt_dictR (net : Net) (n : Nat) (x : State) : dAt (dictR net n) x = ((List.range n).find? fun k => decide (seqS net k = x)).map fun (k : Nat) => (k : Int) := by
  unfold dAt dictR
  rw [List.find?_map, Option.map_map]
  rfl
theorem dAt_met (net : Net) (n : Nat) : dAt (dictR net n) (seqS net n) = (metR net n).map fun (k : Nat) => (k : Int) := dAt_dictR net n _
theorem dSet_dictR {net : Net} {n : Nat} (h : metR net n = none) (hn : n ≤ 2000) : dSet (dictR net n) (seqS net n) (n : Int) = some (dictR net (n + 1)) := by
  rw [dSet_ok (by rw [dictR_len]; omega)]
  unfold dPut
  rw [dAt_met, h]
  simp [dictR, List.range_succ]
def tipsL (net : Net) (n : Nat) : List (List Int) := (List.range n).map (tipS net)
theorem tipsL_len (net : Net) (n : Nat) : (tipsL net n).length = n := by simp [tipsL]
theorem tipsL_succ (net : Net) (n : Nat) : tipsL net (n + 1) = tipsL net n ++ [tipS net n] := by simp [tipsL, List.range_succ]
theorem goR_tot {ρ : Type} {net : Net} {mk : Nat × Nat → ρ} {f : State → Int → Unit × List (State × Int) → Option (Fl (State × (Unit × List (State × Int))) ρ)}
    (hf : ∀ n, n ≤ 2000 → Tot (f (seqS net n) (n : Int)) ((), dictR net n) (fun r => r = match metR net n with
      | some m => .rt (mk (m, n))
      | none => .nx (seqS net (n + 1), (), dictR net (n + 1)))) : ∀ (k n : Nat) {Q : Fl (State × (Unit × List (State × Int))) ρ → Prop}, n + k ≤ 2001 →
    (match goR net k n with
      | some q => Q (.rt (mk q))
      | none => ∀ w, Q (.nx w)) → Tot (fdE f (seqS net n) (rngL (n : Int) k)) ((), dictR net n) Q
  | 0, n, Q, _, q => tot_fdE0.mpr (q _)
  | k + 1, n, Q, hl, q => by
    show Tot (fdE f (seqS net n) ((n : Int) :: rngL ((n : Int) + 1) k)) ((), dictR net n) Q
    rw [tot_fdEc]
    refine (hf n (by omega)).mono fun r e => ?_
    subst e
    rw [goR] at q
    cases c : metR net n with
    | some m => rw [c] at q; exact q
    | none =>
      rw [c] at q
      exact goR_tot hf k (n + 1) (by omega) q
theorem goW_tot {ρ : Type} {net : Net} {err : ρ} {c : State → M ((Unit × List (State × Int)) × List (List Int)) Bool} {f : State → (Unit × List (State × Int)) × List (List Int) → Option (Fl (State × ((Unit × List (State × Int)) × List (List Int))) ρ)}
    (hc : ∀ n, Tot (c (seqS net n)) (((), dictR net n), tipsL net n) (fun w => w = (decide (metR net n = none), (((), dictR net n), tipsL net n))))
    (hf : ∀ n, n ≤ 2000 → metR net n = none → Tot (f (seqS net n)) (((), dictR net n), tipsL net n) (fun r => r = if n = 2000 then .rt err else .nx (seqS net (n + 1), (((), dictR net (n + 1)), tipsL net (n + 1))))) : ∀ (k n j : Nat) {Q : Fl (State × ((Unit × List (State × Int)) × List (List Int))) ρ → Prop}, n + k = 2001 → k < j →
    (match goR net k n with
      | some q => Q (.nx (seqS net q.2, (((), dictR net q.2), tipsL net q.2)))
      | none => Q (.rt err)) → n ≤ 2000 → Tot (whlE c f j (seqS net n)) (((), dictR net n), tipsL net n) Q
  | 0, n, j, Q, hl, hj, q, hn => by omega
  | k + 1, n, 0, Q, hl, hj, q, hn => by omega
  | k + 1, n, j + 1, Q, hl, hj, q, hn => by
    refine tot_whlE ((hc n).mono fun w e => ?_)
    subst e
    rw [goR] at q
    cases c1 : metR net n with
    | some m =>
      rw [c1] at q
      exact ⟨fun e => by simp at e, fun _ => q⟩
    | none =>
      rw [c1] at q
      refine ⟨fun _ => (hf n hn c1).mono fun r e => ?_, fun e => by simp at e⟩
      subst e
      by_cases e2 : n = 2000
      · rw [if_pos e2]
        have : k = 0 := by omega
        subst this
        exact q
      · rw [if_neg e2]
        exact goW_tot hc hf k (n + 1) j (by omega) (by omega) q (by omega)
theorem met_some {net : Net} {n m : Nat} (h : metR net n = some m) : m < n ∧ seqS net m = seqS net n := by
  have a := List.find?_some h
  have b := List.mem_of_find?_eq_some h
  exact ⟨List.mem_range.mp b, of_decide_eq_true a⟩
theorem goR_some {net : Net} : ∀ {k n : Nat} {q : Nat × Nat}, goR net k n = some q → metR net q.2 = some q.1 ∧ n ≤ q.2 ∧ q.2 < n + k
  | 0, n, q, h => by cases h
  | k + 1, n, q, h => by
    rw [goR] at h
    cases c : metR net n with
    | some m => rw [c] at h; cases h; exact ⟨c, Nat.le_refl _, by show n < n + (k + 1); omega⟩
    | none =>
      rw [c] at h
      have := goR_some h
      exact ⟨this.1, by omega, by omega⟩
theorem roundR_some {net : Net} {q : Nat × Nat} (h : roundR net = some q) : metR net q.2 = some q.1 ∧ q.1 < q.2 ∧ q.2 ≤ 2000 ∧ seqS net q.1 = seqS net q.2 := by
  have a := goR_some h
  have b := met_some a.1
  exact ⟨a.1, b.1, by omega, b.2⟩

/-! what goes through a net by itself -/
def rowS (net : Net) (k : Nat) : Int × Int := (flowS net (seqS net k) net.2.length, (tickS net (seqS net k) (zeroP net) none).2.2)
def rowsL (net : Net) (n : Nat) : List (Int × Int) := (List.range n).map (rowS net)
theorem rowsL_len (net : Net) (n : Nat) : (rowsL net n).length = n := by simp [rowsL]
theorem rowsL_succ (net : Net) (n : Nat) : rowsL net (n + 1) = rowsL net n ++ [rowS net n] := by simp [rowsL, List.range_succ]
theorem zeroP_sum (net : Net) : (zeroP net).sum = 0 := by simp
def statesL (net : Net) (n : Nat) : List State := (List.range (n + 1)).map (seqS net)
theorem statesL_len (net : Net) (n : Nat) : (statesL net n).length = n + 1 := by simp [statesL]
theorem statesL_succ (net : Net) (n : Nat) : statesL net (n + 1) = statesL net n ++ [seqS net (n + 1)] := by simp [statesL, List.range_succ]
theorem at_last {α : Type} {xs : List α} {x : α} (h : xs.length < 1000000) : atI (xs ++ [x]) (-1) = some x := by
  unfold atI ixN
  simp
  rw [if_pos (by omega)]
  show (xs ++ [x])[(-1 + ((xs.length : Int) + 1)).toNat]? = some x
  have e : (-1 + ((xs.length : Int) + 1)).toNat = xs.length := by omega
  rw [e]
  simp
theorem law_walk_ok {net : Net} {n : Nat} (h : NetOk net) (hn : n ≤ 10000) : m_law_walk net (n : Int) none = some (statesL net n, tipsL net n) := by
  unfold m_law_walk
  rw [tot_rn]
  simp only [tot_bnd, tot_ret, tot_zm, tot_nw, tot_rb, tot_fzL, tot_drL, tot_gtLS, tot_upLS, tot_lft, tot_gtL, tot_upL, tot_bif, tot_some, tot_rtF, ex_some, ex_someT, and_true, true_and, implies_true, few0, few1, few2, few3, tot_zmI, tot_wp, tot_psh, tot_pshL, tot_gtI, tot_upI, tot_bndX, tot_tryM, tot_tryO, tot_tryR, law_first_ok h, rng_ok (show n ≤ 1000000 by omega)]
  refine tot_fd_rng (fun k z s1 => s1.1.2 = statesL net k ∧ s1.2 = tipsL net k) ⟨rfl, rfl⟩ ?_ ?_
  · rintro k z s1 hk ⟨i1, i2⟩
    have e1 : statesL net k = (List.range k).map (seqS net) ++ [seqS net k] := by simp [statesL, List.range_succ]
    simp only [tot_bnd, tot_ret, tot_zm, tot_nw, tot_rb, tot_fzL, tot_drL, tot_gtLS, tot_upLS, tot_lft, tot_gtL, tot_upL, tot_bif, tot_some, tot_rtF, ex_some, ex_someT, and_true, true_and, implies_true, few0, few1, few2, few3, tot_zmI, tot_wp, tot_psh, tot_pshL, tot_gtI, tot_upI, tot_bndX, tot_tryM, tot_tryO, tot_tryR, rep0_ok h.n1 h.n2]
    rw [i1, e1, at_last (by simp; omega), ex_some, law_tick_ok h (seqS_ok net k) (zeroP_len net)]
    simp only [tot_bnd, tot_ret, tot_zm, tot_nw, tot_rb, tot_fzL, tot_drL, tot_gtLS, tot_upLS, tot_lft, tot_gtL, tot_upL, tot_bif, tot_some, tot_rtF, ex_some, ex_someT, and_true, true_and, implies_true, few0, few1, few2, few3, tot_zmI, tot_wp, tot_psh, tot_pshL, tot_gtI, tot_upI, tot_bndX, tot_tryM, tot_tryO, tot_tryR]
    rw [← e1, T.app_ok (by rw [statesL_len]; show _ < 1000000; omega), ex_some, i2, T.app_ok (by rw [tipsL_len]; show _ < 1000000; omega), ex_some]
    exact ⟨(statesL_succ net k).symm, (tipsL_succ net k).symm⟩
  · rintro z s1 ⟨i1, i2⟩
    show (s1.1.2, s1.2) = _
    rw [i1, i2]
/-! sums that go round -/
def sumV (xs : List Int) (a l t : Int) : Int := if t ≤ a then (xs.take t.toNat).sum else (xs.take (a + (t - a) % l).toNat).sum + (t - a) / l * (xs.drop a.toNat).sum
def colL (net : Net) (w : Nat) (n : Nat) : List Int := (rowsL net n).map fun r => [r.1, r.2].getD w 0
theorem colL_len (net : Net) (w n : Nat) : (colL net w n).length = n := by simp [colL, rowsL]
theorem at_pair (x y : Int) {w : Nat} (h : w < 2) : atI [x, y] (w : Int) = some ([x, y].getD w 0) := atI_d 0 h
theorem sIx_nn {n d : Nat} {i : Int} (h0 : 0 ≤ i) : HT.sIx n d (some i) = min i.toNat n := if_neg (by omega)
theorem rounds_lt {net : Net} {q : Nat × Nat} (h : roundR net = some q) : ∃ l : Nat, ((q.2 : Int) - q.1) = (l : Int) ∧ 0 < l ∧ q.1 + l = q.2 ∧ q.1 + l ≤ 2000 := by
  have := roundR_some h
  exact ⟨q.2 - q.1, by omega, by omega, by omega, by omega⟩

/-! a net by itself, a vessel perhaps stuck -/
def seqF (net : Net) (f : Option Int) : Nat → State
  | 0 => firstS net
  | k + 1 => (tickS net (seqF net f k) (zeroP net) f).1
def tipF (net : Net) (f : Option Int) (k : Nat) : List Int := (tickS net (seqF net f k) (zeroP net) f).2.1
theorem seqF_ok (net : Net) (f : Option Int) : ∀ k, StOk net (seqF net f k)
  | 0 => firstS_ok net
  | k + 1 => tickS_ok _ _ (seqF_ok net f k)
def hitF (net : Net) (f : Option Int) (w : Int) (k : Nat) : Bool := (tipF net f k).any fun b => decide (b = w)
def tipsW (net : Net) (f : Option Int) (n : Nat) (w : Int) : List Int := ((List.range n).filter (hitF net f w)).map fun (k : Nat) => (k : Int)
def tipsA (net : Net) (f : Option Int) (n : Nat) : List (List Int) := (List.range net.1.length).map fun (w : Nat) => tipsW net f n w
theorem tipsW_succ (net : Net) (f : Option Int) (n : Nat) (w : Int) : tipsW net f (n + 1) w = tipsW net f n w ++ (if hitF net f w n = true then [(n : Int)] else []) := by
  unfold tipsW
  rw [List.range_succ, List.filter_append, List.map_append, List.filter_cons, List.filter_nil]
  split <;> rfl
theorem tipsW_len (net : Net) (f : Option Int) (n : Nat) (w : Int) : (tipsW net f n w).length ≤ n := by
  unfold tipsW
  rw [List.length_map]
  exact Nat.le_trans (List.length_filter_le _ _) (by simp)
theorem filter_range_eq {p q : Nat → Bool} : ∀ n, (List.range n).filter p = (List.range n).filter q ↔ ∀ k, k < n → p k = q k := by
  intro n
  constructor
  · intro e k hk
    have h1 : k ∈ (List.range n).filter p ↔ k ∈ (List.range n).filter q := by rw [e]
    simp only [List.mem_filter, List.mem_range, hk, true_and] at h1
    cases h2 : p k <;> cases h3 : q k <;> simp [h2, h3] at h1 <;> rfl
  · intro h
    exact List.filter_congr fun k hk => h k (List.mem_range.mp hk)
theorem tipsW_eq {net net' : Net} {f g : Option Int} {n : Nat} {w w' : Int} : tipsW net f n w = tipsW net' g n w' ↔ ∀ k, k < n → hitF net f w k = hitF net' g w' k := by
  rw [← filter_range_eq]
  unfold tipsW
  constructor
  · intro e
    have h := congrArg (List.map Int.toNat) e
    rw [List.map_map, List.map_map] at h
    have e1 : (Int.toNat ∘ fun (k : Nat) => (k : Int)) = id := by funext k; simp
    rw [e1, List.map_id, List.map_id] at h
    exact h
  · intro e; rw [e]
theorem tipped_nodup (net : Net) (has : List Int) (st : Option Int) (j : Nat) : (tippedS net has st j).Nodup := by
  unfold tippedS
  rw [List.nodup_iff_pairwise_ne, List.pairwise_map]
  have h : ((List.range j).filter fun k => tipsOf (net.1.getD k v0) (has.getD k 0) k st).Pairwise (fun (a b : Nat) => a ≠ b) := List.nodup_iff_pairwise_ne.mp (List.nodup_range.sublist List.filter_sublist)
  exact h.imp fun hab e => hab (by omega)
theorem tipF_lt {net : Net} {f : Option Int} {k : Nat} : ∀ t ∈ tipF net f k, 0 ≤ t ∧ t < net.1.length := tipped_lt net _ f

theorem statesF_ok {net : Net} {f : Option Int} {n : Nat} (h : NetOk net) (hn : n ≤ 10000) : m_law_walk net (n : Int) f = some ((List.range (n + 1)).map (seqF net f), (List.range n).map (tipF net f)) := by
  unfold m_law_walk
  rw [tot_rn]
  simp only [tot_bnd, tot_ret, tot_zm, tot_nw, tot_rb, tot_fzL, tot_drL, tot_gtLS, tot_upLS, tot_lft, tot_gtL, tot_upL, tot_bif, tot_some, tot_rtF, ex_some, ex_someT, and_true, true_and, implies_true, few0, few1, few2, few3, tot_zmI, tot_wp, tot_psh, tot_pshL, tot_gtI, tot_upI, tot_bndX, tot_tryM, tot_tryO, tot_tryR, law_first_ok h, rng_ok (show n ≤ 1000000 by omega)]
  refine tot_fd_rng (fun k z s1 => s1.1.2 = (List.range (k + 1)).map (seqF net f) ∧ s1.2 = (List.range k).map (tipF net f)) ⟨rfl, rfl⟩ ?_ ?_
  · rintro k z s1 hk ⟨i1, i2⟩
    have e1 : (List.range (k + 1)).map (seqF net f) = (List.range k).map (seqF net f) ++ [seqF net f k] := by simp [List.range_succ]
    simp only [tot_bnd, tot_ret, tot_zm, tot_nw, tot_rb, tot_fzL, tot_drL, tot_gtLS, tot_upLS, tot_lft, tot_gtL, tot_upL, tot_bif, tot_some, tot_rtF, ex_some, ex_someT, and_true, true_and, implies_true, few0, few1, few2, few3, tot_zmI, tot_wp, tot_psh, tot_pshL, tot_gtI, tot_upI, tot_bndX, tot_tryM, tot_tryO, tot_tryR, rep0_ok h.n1 h.n2]
    rw [i1, e1, at_last (by simp; omega), ex_some, law_tick_ok h (seqF_ok net f k) (zeroP_len net)]
    simp only [tot_bnd, tot_ret, tot_zm, tot_nw, tot_rb, tot_fzL, tot_drL, tot_gtLS, tot_upLS, tot_lft, tot_gtL, tot_upL, tot_bif, tot_some, tot_rtF, ex_some, ex_someT, and_true, true_and, implies_true, few0, few1, few2, few3, tot_zmI, tot_wp, tot_psh, tot_pshL, tot_gtI, tot_upI, tot_bndX, tot_tryM, tot_tryO, tot_tryR]
    rw [← e1, T.app_ok (by simp; show _ < 1000000; omega), ex_some, i2, T.app_ok (by simp; show _ < 1000000; omega), ex_some]
    refine ⟨?_, ?_⟩
    · rw [List.range_succ (n := k + 1), List.map_append]; rfl
    · rw [List.range_succ, List.map_append]; rfl
  · rintro z s1 ⟨i1, i2⟩
    show (s1.1.2, s1.2) = _
    rw [i1, i2]
theorem law_tips_ok {net : Net} {f : Option Int} {n : Nat} (h : NetOk net) (hn : n ≤ 10000) : m_law_tips net (n : Int) f = some (tipsA net f n) := by
  have h2 := h.n2
  unfold m_law_tips
  rw [tot_rn]
  simp only [tot_bnd, tot_ret, tot_zm, tot_nw, tot_rb, tot_fzL, tot_drL, tot_gtLS, tot_upLS, tot_lft, tot_gtL, tot_upL, tot_bif, tot_some, tot_rtF, ex_some, ex_someT, and_true, true_and, implies_true, few0, few1, few2, few3, tot_zmI, tot_wp, tot_psh, tot_pshL, tot_gtI, tot_upI, tot_bndX, tot_tryM, tot_tryO, tot_tryR, statesF_ok h hn, rng_ok (show net.1.length ≤ 1000000 by omega), chk_ok (show (rngL 0 net.1.length).length < lim by rw [rngL_len]; show _ < 1000000; omega)]
  refine tot_mp_rng (fun w => tipsW net f n w) (fun w hw s1 => ?_) ?_
  · simp only [tot_bnd, tot_ret, tot_zm, tot_nw, tot_rb, tot_fzL, tot_drL, tot_gtLS, tot_upLS, tot_lft, tot_gtL, tot_upL, tot_bif, tot_some, tot_rtF, ex_some, ex_someT, and_true, true_and, implies_true, few0, few1, few2, few3, tot_zmI, tot_wp, tot_psh, tot_pshL, tot_gtI, tot_upI, tot_bndX, tot_tryM, tot_tryO, tot_tryR, rng_ok (show n ≤ 1000000 by omega), chk_ok (show (rngL 0 n).length < lim by rw [rngL_len]; show _ < 1000000; omega)]
    refine tot_mpf_rng (hitF net f w) (fun k => (k : Int)) (fun k hk s2 => ?_) (fun k hk s2 => ⟨_, rfl, rfl⟩) ?_
    · have e : atI ((List.range n).map (tipF net f)) (k : Int) = some (tipF net f k) := T.atI_nat (by simp [hk])
      simp only [tot_bnd, tot_ret, tot_zm, tot_nw, tot_rb, tot_fzL, tot_drL, tot_gtLS, tot_upLS, tot_lft, tot_gtL, tot_upL, tot_bif, tot_some, tot_rtF, ex_some, ex_someT, and_true, true_and, implies_true, few0, few1, few2, few3, tot_zmI, tot_wp, tot_psh, tot_pshL, tot_gtI, tot_upI, tot_bndX, tot_tryM, tot_tryO, tot_tryR, e]
      rfl
    · rfl
  · rfl
theorem all_cases_ok {net : Net} (h : NetOk net) : m_all_cases net = some (none :: (rngL 0 net.1.length).map some) := by
  have h2 := h.n2
  unfold m_all_cases
  rw [tot_rn]
  have e : rngS (net.1.length : Int) = some (rngL 0 net.1.length) := by unfold rngS; rw [if_pos (by omega)]; simp
  simp only [tot_bnd, tot_ret, tot_zm, tot_nw, tot_rb, tot_fzL, tot_drL, tot_gtLS, tot_upLS, tot_lft, tot_gtL, tot_upL, tot_bif, tot_some, tot_rtF, ex_some, ex_someT, and_true, true_and, implies_true, few0, few1, few2, few3, tot_zmI, tot_wp, tot_psh, tot_pshL, tot_gtI, tot_upI, tot_bndX, tot_tryM, tot_tryO, tot_tryR, e]
  rw [catL_ok (by simp [rngL_len]; show _ < 1000000; omega)]
  simp
theorem pget_all {α : Type} (xs : List (List α)) : pget xs (rngL 0 xs.length) = xs := by
  unfold pget
  rw [rngL_eq, List.map_map]
  refine List.ext_getElem (by simp) fun i h1 h2 => ?_
  simp [h2]
theorem rngL_get {n k : Nat} (h : k < n) : (rngL 0 n)[k]? = some (k : Int) := by
  rw [rngL_eq]; simp [h]
theorem tips_in_ok {net : Net} {f : Option Int} {n : Nat} (h : NetOk net) (hn : n ≤ 10000) : m_tips_in net (n : Int) f = some (tipsA net f n) := by
  have h2 := h.n2
  have hc : chk net.1 = some net.1 := chk_ok (by show _ < 1000000; omega)
  unfold m_tips_in
  rw [tot_rn]
  simp only [tot_bnd, tot_ret, tot_zm, tot_nw, tot_rb, tot_fzL, tot_drL, tot_gtLS, tot_upLS, tot_lft, tot_gtL, tot_upL, tot_bif, tot_some, tot_rtF, ex_some, ex_someT, and_true, true_and, implies_true, few0, few1, few2, few3, tot_zmI, tot_wp, tot_psh, tot_pshL, tot_gtI, tot_upI, tot_bndX, tot_tryM, tot_tryO, tot_tryR, first_state_ok h, hc]
  refine tot_mp_fn (fun _ => ([] : List Int)) (fun x _ s1 => by simp only [tot_bnd, tot_ret, tot_zm, tot_nw, tot_rb, tot_fzL, tot_drL, tot_gtLS, tot_upLS, tot_lft, tot_gtL, tot_upL, tot_bif, tot_some, tot_rtF, ex_some, ex_someT, and_true, true_and, implies_true, few0, few1, few2, few3, tot_zmI, tot_wp, tot_psh, tot_pshL, tot_gtI, tot_upI, tot_bndX, tot_tryM, tot_tryO, tot_tryR]) ?_
  simp only [tot_bnd, tot_ret, tot_zm, tot_nw, tot_rb, tot_fzL, tot_drL, tot_gtLS, tot_upLS, tot_lft, tot_gtL, tot_upL, tot_bif, tot_some, tot_rtF, ex_some, ex_someT, and_true, true_and, implies_true, few0, few1, few2, few3, tot_zmI, tot_wp, tot_psh, tot_pshL, tot_gtI, tot_upI, tot_bndX, tot_tryM, tot_tryO, tot_tryR, rng_ok (show n ≤ 1000000 by omega), List.length_nil, List.nil_append, List.length_map]
  refine tot_fd_rng (fun k z s1 => z = seqF net f k ∧ s1.2 = tipsA net f k) ⟨rfl, ?_⟩ ?_ ?_
  · refine List.ext_getElem (by simp [tipsA]) fun i h1 h2 => ?_
    simp [tipsA, tipsW]
  · rintro k z s1 hk ⟨rfl, i2⟩
    simp only [tot_bnd, tot_ret, tot_zm, tot_nw, tot_rb, tot_fzL, tot_drL, tot_gtLS, tot_upLS, tot_lft, tot_gtL, tot_upL, tot_bif, tot_some, tot_rtF, ex_some, ex_someT, and_true, true_and, implies_true, few0, few1, few2, few3, tot_zmI, tot_wp, tot_psh, tot_pshL, tot_gtI, tot_upI, tot_bndX, tot_tryM, tot_tryO, tot_tryR, dry_ok h, tick_with_ok h (seqF_ok net f k) (zeroP_len net)]
    refine tot_fd (fun pre _ s2 => s2.2 = (List.range net.1.length).map fun (w : Nat) => tipsW net f k w ++ (if (pre.any fun b => decide (b = (w : Int))) = true then [(k : Int)] else [])) ?_ ?_ ?_
    · rw [i2]
      unfold tipsA
      refine List.map_congr_left fun w _ => ?_
      simp
    · intro pre x post z s2 e i
      have hx := tipF_lt (net := net) (f := f) (k := k) x (by show x ∈ (tickS _ _ _ _).2.1; rw [e]; simp)
      have hnd : (tickS net (seqF net f k) (zeroP net) f).2.1.Nodup := tipped_nodup _ _ _ _
      rw [e] at hnd
      have hxp : x ∉ pre := fun hm => (List.nodup_append.mp hnd).2.2 x hm x List.mem_cons_self rfl
      obtain ⟨j, rfl⟩ : ∃ j : Nat, x = (j : Int) := ⟨x.toNat, by omega⟩
      have hj : j < net.1.length := by omega
      have e1 : atI (rngL 0 net.1.length) (j : Int) = some (j : Int) := T.atI_nat (rngL_get hj)
      have hno : (pre.any fun b => decide (b = (j : Int))) = false := by
        rw [List.any_eq_false]
        intro b hb hd
        exact hxp (of_decide_eq_true hd ▸ hb)
      have e2 : s2.2[(j : Int).toNat]? = some (tipsW net f k (j : Int)) := by
        rw [i, Int.toNat_natCast]
        simp [hj, hxp]
      simp only [tot_bnd, tot_ret, tot_zm, tot_nw, tot_rb, tot_fzL, tot_drL, tot_gtLS, tot_upLS, tot_lft, tot_gtL, tot_upL, tot_bif, tot_some, tot_rtF, ex_some, ex_someT, and_true, true_and, implies_true, few0, few1, few2, few3, tot_zmI, tot_wp, tot_psh, tot_pshL, tot_gtI, tot_upI, tot_bndX, tot_tryM, tot_tryO, tot_tryR, Int.ofNat_zero, Int.natCast_zero, e1]
      refine ⟨_, e2, _, T.app_ok (by have := tipsW_len net f k (j : Int); show _ < 1000000; omega), ?_⟩
      rw [i]
      refine List.ext_getElem (by simp) fun q h1 h2 => ?_
      have hq : q < net.1.length := by simpa using h2
      rw [List.getElem_set]
      simp only [List.getElem_map, List.getElem_range, Int.toNat_natCast, List.any_append, List.any_cons, List.any_nil, Bool.or_false]
      by_cases hjq : j = q
      · subst hjq; simp
      · have : ¬ ((j : Int) = (q : Int)) := by omega
        simp [hjq, this]
    · intro z s2 i
      refine ⟨rfl, ?_⟩
      rw [i]
      unfold tipsA
      refine List.map_congr_left fun w _ => ?_
      rw [tipsW_succ]
      rfl
  · rintro z s1 ⟨_, i2⟩
    simp only [tot_bnd, tot_ret, tot_zm, tot_nw, tot_rb, tot_fzL, tot_drL, tot_gtLS, tot_upLS, tot_lft, tot_gtL, tot_upL, tot_bif, tot_some, tot_rtF, ex_some, ex_someT, and_true, true_and, implies_true, few0, few1, few2, few3, tot_zmI, tot_wp, tot_psh, tot_pshL, tot_gtI, tot_upI, tot_bndX, tot_tryM, tot_tryO, tot_tryR, Int.ofNat_zero, Int.natCast_zero]
    rw [i2]
    have hl : net.1.length = (tipsA net f n).length := by simp [tipsA]
    conv => lhs; rw [hl]
    exact pget_all _
theorem cases_ok {net : Net} {w : Nat} {n : Nat} {seen : List Int} (h : NetOk net) (hw : w < net.1.length) (hn : n ≤ 10000) : m_cases net (w : Int) (n : Int) seen = some (.inl ((none :: (rngL 0 net.1.length).map some).filter fun f => decide (tipsW net f n w = seen))) := by
  have h2 := h.n2
  unfold m_cases
  rw [tot_rn]
  simp only [tot_bnd, tot_ret, tot_zm, tot_nw, tot_rb, tot_fzL, tot_drL, tot_gtLS, tot_upLS, tot_lft, tot_gtL, tot_upL, tot_bif, tot_some, tot_rtF, ex_some, ex_someT, and_true, true_and, implies_true, few0, few1, few2, few3, tot_zmI, tot_wp, tot_psh, tot_pshL, tot_gtI, tot_upI, tot_bndX, tot_tryM, tot_tryO, tot_tryR, needX_ok (net := net) (x := (w : Int)) (by omega) (by omega), all_cases_ok h]
  rw [chk_ok (by simp [rngL_len]; show _ < 1000000; omega)]
  simp only [tot_bnd, tot_ret, tot_zm, tot_nw, tot_rb, tot_fzL, tot_drL, tot_gtLS, tot_upLS, tot_lft, tot_gtL, tot_upL, tot_bif, tot_some, tot_rtF, ex_some, ex_someT, and_true, true_and, implies_true, few0, few1, few2, few3, tot_zmI, tot_wp, tot_psh, tot_pshL, tot_gtI, tot_upI, tot_bndX, tot_tryM, tot_tryO, tot_tryR]
  refine tot_mpf_fn (fun f => decide (tipsW net f n w = seen)) (fun f => f) (fun f _ s1 => ?_) (fun f _ s1 => ⟨_, rfl, rfl⟩) ?_
  · have e : atI (tipsA net f n) (w : Int) = some (tipsW net f n w) := T.atI_nat (by simp [tipsA, hw])
    simp only [tot_bnd, tot_ret, tot_zm, tot_nw, tot_rb, tot_fzL, tot_drL, tot_gtLS, tot_upLS, tot_lft, tot_gtL, tot_upL, tot_bif, tot_some, tot_rtF, ex_some, ex_someT, and_true, true_and, implies_true, few0, few1, few2, few3, tot_zmI, tot_wp, tot_psh, tot_pshL, tot_gtI, tot_upI, tot_bndX, tot_tryM, tot_tryO, tot_tryR, tips_in_ok h hn, e]
    rw [eqD_dec (de_lst de_int) (by decide)]
    simp
  · rw [List.map_id']
theorem cases_no {net : Net} {w : Int} {n : Int} {seen : List Int} (hw : w < 0 ∨ net.1.length ≤ w) : m_cases net w n seen = some (.inr "NoVessel") := by
  unfold m_cases
  rw [tot_rn]
  simp only [tot_bnd, tot_ret, tot_zm, tot_nw, tot_rb, tot_fzL, tot_drL, tot_gtLS, tot_upLS, tot_lft, tot_gtL, tot_upL, tot_bif, tot_some, tot_rtF, ex_some, ex_someT, and_true, true_and, implies_true, few0, few1, few2, few3, tot_zmI, tot_wp, tot_psh, tot_pshL, tot_gtI, tot_upI, tot_bndX, tot_tryM, tot_tryO, tot_tryR, needX_no hw]

/-! cases by what was seen -/
theorem filter_index {α : Type} (d : α) (p : α → Bool) : ∀ xs : List α, ((List.range xs.length).filter fun k => p (xs.getD k d)).map (fun k => xs.getD k d) = xs.filter p := by
  intro xs
  have e : (List.range xs.length).map (fun k => xs.getD k d) = xs := by
    refine List.ext_getElem (by simp) fun i h1 h2 => ?_
    simp [h2]
  conv => rhs; rw [← e]
  rw [List.filter_map]
  rfl
abbrev allC (net : Net) : List (Option Int) := none :: (rngL 0 net.1.length).map some
theorem allC_len (net : Net) : (allC net).length = net.1.length + 1 := by simp [rngL_len]
theorem strOk_words : PySem.PyData.strOk "vessel" = true := by decide +kernel
abbrev dCW : RD (rSum (rLst (rOpt rInt)) (rTh (arOne rStr))) := dSum (dLst (dOpt dInt)) (dTh (daOne dStr))
theorem dl_cases : DL (dLst (dOpt dInt)) 2 (fun _ => True) := (dl_lst ((dl_opt de_int.dl (by decide)))).imp fun x _ o _ y _ => trivial
theorem dl_cw : DL dCW 3 (Sum.elim (fun _ => True) (fun s => PySem.PyData.strOk s = true)) := (dl_sum (dl_cases.up (by decide)) (dl_word.up (by decide))).imp fun x h => by
  cases x with
  | inl o => trivial
  | inr s => exact h
theorem cutL {α : Type} (xs : List α) (i j : Option Int) : (cutV' xs i j).length ≤ xs.length := by
  unfold cutV'
  rw [List.length_take, List.length_drop]; omega

end Law

namespace Law
open PySem L2 T
/-! each one once, in the order met -/
theorem inDd_ok {α : Type} [DecidableEq α] {R : Rl α} {D : RD R} {n : Nat} (h : DE D n) (l : n + 1 ≤ 64) (x : α) (xs : List α) : inDd (D.d x) (xs.map D.d) = some (decide (x ∈ xs)) := by
  unfold inDd
  have s1 : SeqAt.shaped (D.d x) = true := h.ds.shaped (by omega) x
  have s2 : SeqAt.shaped (.list (xs.map D.d)) = true := (ds_lst h.ds).shaped l xs
  rw [if_pos ⟨s1, s2⟩]
  congr 1
  rw [List.any_map]
  rw [Bool.eq_iff_iff, List.any_eq_true, decide_eq_true_iff]
  constructor
  · rintro ⟨y, hy, e⟩
    have := (h.eq y x).mp e
    rw [← this]; exact hy
  · intro hx
    exact ⟨x, hx, (h.eq x x).mpr rfl⟩
section
variable {α β : Type} [DecidableEq α] [DecidableEq β]
def dedS (acc : List α) (x : α) : List α := if x ∈ acc then acc else acc ++ [x]
def dedF (xs : List α) : List α := xs.foldl dedS []
theorem ded_snoc (xs : List α) (x : α) : dedF (xs ++ [x]) = dedS (dedF xs) x := by unfold dedF; rw [List.foldl_append]; rfl
theorem ded_facts (xs : List α) : (dedF xs).Nodup ∧ (∀ z, z ∈ dedF xs ↔ z ∈ xs) ∧ (dedF xs).length ≤ xs.length := by
  have key : ∀ (ys : List α) (acc : List α), acc.Nodup → (ys.foldl dedS acc).Nodup ∧ (∀ z, z ∈ ys.foldl dedS acc ↔ z ∈ acc ∨ z ∈ ys) ∧ (ys.foldl dedS acc).length ≤ acc.length + ys.length := by
    intro ys
    induction ys with
    | nil => intro acc h; exact ⟨h, fun z => by simp, Nat.le_refl _⟩
    | cons y ys ih =>
      intro acc h
      rw [List.foldl_cons]
      by_cases c : y ∈ acc
      · have e : dedS acc y = acc := if_pos c
        rw [e]
        obtain ⟨a, b, d⟩ := ih acc h
        exact ⟨a, fun z => by rw [b, List.mem_cons]; exact ⟨fun q => q.elim Or.inl fun q => Or.inr (Or.inr q), fun q => q.elim Or.inl fun q => q.elim (fun e => Or.inl (e ▸ c)) Or.inr⟩, by rw [List.length_cons]; omega⟩
      · have e : dedS acc y = acc ++ [y] := if_neg c
        rw [e]
        have hn : (acc ++ [y]).Nodup := by
          rw [List.nodup_append]
          exact ⟨h, by simp, fun a ha b hb => by rw [List.mem_singleton.mp hb]; exact fun q => c (q ▸ ha)⟩
        obtain ⟨a, b, d⟩ := ih _ hn
        exact ⟨a, fun z => by rw [b, List.mem_append, List.mem_singleton, List.mem_cons, or_assoc], by rw [List.length_append, List.length_singleton] at d; rw [List.length_cons]; omega⟩
  obtain ⟨a, b, c⟩ := key xs [] List.nodup_nil
  exact ⟨a, fun z => by rw [show dedF xs = xs.foldl dedS [] from rfl, b]; simp, by show (xs.foldl dedS []).length ≤ _; simpa using c⟩
theorem ded_inj {G : α → β} : ∀ {xs : List α}, (∀ a ∈ xs, ∀ b ∈ xs, G a = G b → a = b) → dedF (xs.map G) = (dedF xs).map G := by
  intro xs h
  have key : ∀ ys : List α, (∀ y ∈ ys, y ∈ xs) → ∀ acc : List α, (∀ y ∈ acc, y ∈ xs) → (ys.map G).foldl dedS (acc.map G) = (ys.foldl dedS acc).map G := by
    intro ys
    induction ys with
    | nil => intro _ acc _; rfl
    | cons y ys ih =>
      intro hy acc ha
      rw [List.map_cons, List.foldl_cons, List.foldl_cons]
      have hyx := hy y List.mem_cons_self
      have e : dedS (acc.map G) (G y) = (dedS acc y).map G := by
        unfold dedS
        by_cases c : y ∈ acc
        · rw [if_pos c, if_pos (List.mem_map.mpr ⟨y, c, rfl⟩)]
        · rw [if_neg c, if_neg, List.map_append]; rfl
          intro q
          obtain ⟨z, hz, ez⟩ := List.mem_map.mp q
          exact c (h z (ha z hz) y hyx ez ▸ hz)
      rw [e]
      refine ih (fun z hz => hy z (List.mem_cons_of_mem _ hz)) _ fun z hz => ?_
      unfold dedS at hz
      split at hz
      · exact ha z hz
      · rcases List.mem_append.mp hz with hz | hz
        · exact ha z hz
        · rw [List.mem_singleton.mp hz]; exact hyx
  exact key xs (fun _ q => q) [] (fun _ q => nomatch q)
end
theorem ded_uniq (xs : List (List Int)) : (dedF xs).length = (uniq xs).length := by
  obtain ⟨a, b, _⟩ := ded_facts xs
  exact ((List.perm_ext_iff_of_nodup a (uniq_nodup xs)).mpr fun z => by rw [b, uniq_mem]).length_eq
theorem ded_pos {xs : List (List Int)} (h : xs ≠ []) : 1 ≤ (dedF xs).length := by
  obtain ⟨a, b, _⟩ := ded_facts xs
  cases xs with
  | nil => exact absurd rfl h
  | cons x xs => exact List.length_pos_of_mem ((b x).mpr List.mem_cons_self)
/-! the first of the greatest -/
def bestS (p : Int × Int) (q : Int × Int) : Int × Int := if p.2 < q.2 then q else p
structure BestI (cs : List Int) (k : Nat) (p : Int × Int) : Prop where
  zero : k = 0 → p = (0, 0)
  pos : 0 < k → ∃ j : Nat, p.1 = (j : Int) ∧ j < k ∧ cs[j]? = some p.2 ∧ (∀ i, i < j → ∀ c, cs[i]? = some c → c < p.2) ∧ ∀ i, i < k → ∀ c, cs[i]? = some c → c ≤ p.2
theorem BestI.step {cs : List Int} {k : Nat} {p : Int × Int} {c : Int} (h : BestI cs k p) (hc : cs[k]? = some c) (h1 : 1 ≤ c) : BestI cs (k + 1) (bestS p ((k : Int), c)) := by
  refine ⟨fun e => by omega, fun _ => ?_⟩
  by_cases k0 : k = 0
  · subst k0
    rw [h.zero rfl]
    have e : bestS ((0 : Int), (0 : Int)) (((0 : Nat) : Int), c) = (((0 : Nat) : Int), c) := if_pos (show (0 : Int) < c by omega)
    rw [e]
    refine ⟨0, rfl, by omega, hc, fun i hi => by omega, fun i hi d hd => ?_⟩
    obtain rfl : i = 0 := by omega
    rw [hc] at hd; cases hd; exact Int.le_refl _
  · obtain ⟨j, e1, e2, e3, e4, e5⟩ := h.pos (by omega)
    by_cases c2 : p.2 < c
    · have e : bestS p ((k : Int), c) = ((k : Int), c) := if_pos c2
      rw [e]
      refine ⟨k, rfl, by omega, hc, fun i hi d hd => ?_, fun i hi d hd => ?_⟩
      · have := e5 i hi d hd
        show d < c
        omega
      · by_cases i2 : i = k
        · subst i2; rw [hc] at hd; cases hd; exact Int.le_refl _
        · have := e5 i (by omega) d hd
          show d ≤ c
          omega
    · have e : bestS p ((k : Int), c) = p := if_neg c2
      rw [e]
      refine ⟨j, e1, by omega, e3, e4, fun i hi d hd => ?_⟩
      by_cases i2 : i = k
      · subst i2; rw [hc] at hd; cases hd; omega
      · exact e5 i (by omega) d hd
theorem BestI.done {cs : List Int} {p : Int × Int} (h : BestI cs cs.length p) (hn : 0 < cs.length) : cs.max? = some p.2 ∧ idxO cs p.2 = some p.1 ∧ ∃ j : Nat, p.1 = (j : Int) ∧ cs[j]? = some p.2 := by
  obtain ⟨j, e1, e2, e3, e4, e5⟩ := h.pos hn
  refine ⟨List.max?_eq_some_iff.mpr ⟨List.mem_of_getElem? e3, fun b hb => ?_⟩, ?_, j, e1, e3⟩
  · obtain ⟨i, hi⟩ := List.getElem?_of_mem hb
    exact e5 i (List.getElem?_eq_some_iff.mp hi).1 b hi
  · unfold idxO
    have : (cs.findIdx? fun x => decide (x = p.2)) = some j := by
      rw [List.findIdx?_eq_some_iff_getElem]
      refine ⟨e2, ?_, fun i hi => ?_⟩
      · have := (List.getElem?_eq_some_iff.mp e3).2
        simp [this]
      · have := e4 i hi cs[i] (List.getElem?_eq_getElem (by omega))
        simp; omega
    rw [this, e1]; rfl

end Law

namespace Law
open PySem L2 T
/-! the best watch -/
theorem de_optI7 : DE (dOpt dInt) 1 := ⟨fun x => by cases x <;> rfl, fun x => by cases x <;> simp [dOpt, dInt, PySem.PyData.depth], fun x y => by cases x <;> cases y <;> simp [dOpt, dInt, PySem.PyData.eqv]⟩
def colF (net : Net) (n v : Nat) : List (List Int) := (allC net).map fun f => tipsW net f n (v : Int)
def cntF (net : Net) (n v : Nat) : Int := ((dedF (colF net n v)).length : Int)
def cntsF (net : Net) (n : Nat) : List Int := (List.range net.1.length).map fun v => cntF net n v
theorem cnt_pos (net : Net) (n v : Nat) : 1 ≤ cntF net n v := by
  have : 1 ≤ (dedF (colF net n v)).length := ded_pos (by simp [colF])
  show (1 : Int) ≤ ((dedF (colF net n v)).length : Int)
  omega
theorem col_len (net : Net) (n v : Nat) : (colF net n v).length = net.1.length + 1 := by unfold colF; rw [List.length_map, allC_len]
theorem cnts_at {net : Net} {n v : Nat} (h : v < net.1.length) : (cntsF net n)[v]? = some (cntF net n v) := by simp [cntsF, h]
theorem row_at {net : Net} {f : Option Int} {n v : Nat} (hv : v < net.1.length) : atI (tipsA net f n) (v : Int) = some (tipsW net f n (v : Int)) := T.atI_nat (by simp [tipsA, hv])
theorem tot_rnE {α : Type} {m : M Unit α} {P : α → Prop} (h : Tot m () (fun w => P w.1)) : ∃ p, rn m = some p ∧ P p := by
  obtain ⟨⟨p, s⟩, e, q⟩ := h
  exact ⟨p, tot_rn.mpr ⟨_, e, rfl⟩, q⟩
theorem watch_ok {net : Net} {n : Nat} (h : NetOk net) (hn : n ≤ 10000) : ∃ p, m_best_watch net (n : Int) = some p ∧ BestI (cntsF net n) net.1.length p := by
  have hl := h.n2
  have lA := allC_len net
  have cA : chk (allC net) = some (allC net) := chk_ok (by rw [lA]; show _ < 1000000; omega)
  unfold m_best_watch
  refine tot_rnE ?_
  refine tot_cut (fun w => w = ((allC net).map fun f => tipsA net f n, ())) ?_ fun rows s1 e => ?_
  · simp only [tot_bnd, tot_ret, tot_zm, tot_nw, tot_rb, tot_fzL, tot_drL, tot_gtLS, tot_upLS, tot_lft, tot_gtL, tot_upL, tot_bif, tot_some, tot_rtF, ex_some, ex_someT, and_true, true_and, implies_true, few0, few1, few2, few3, tot_zmI, tot_wp, tot_psh, tot_pshL, tot_gtI, tot_upI, tot_bndX, tot_tryM, tot_tryO, tot_tryR, all_cases_ok h]
    rw [show (none :: (rngL 0 net.1.length).map some : List (Option Int)) = allC net from rfl, cA, ex_some]
    exact tot_mp_fn (fun f => tipsA net f n) (fun f _ s1 => by simp only [tot_bnd, tot_ret, tot_zm, tot_nw, tot_rb, tot_fzL, tot_drL, tot_gtLS, tot_upLS, tot_lft, tot_gtL, tot_upL, tot_bif, tot_some, tot_rtF, ex_some, ex_someT, and_true, true_and, implies_true, few0, few1, few2, few3, tot_zmI, tot_wp, tot_psh, tot_pshL, tot_gtI, tot_upI, tot_bndX, tot_tryM, tot_tryO, tot_tryR, tips_in_ok h hn]) rfl
  cases e
  simp only [tot_bnd, tot_ret, tot_zm, tot_nw, tot_rb, tot_fzL, tot_drL, tot_gtLS, tot_upLS, tot_lft, tot_gtL, tot_upL, tot_bif, tot_some, tot_rtF, ex_some, ex_someT, and_true, true_and, implies_true, few0, few1, few2, few3, tot_zmI, tot_wp, tot_psh, tot_pshL, tot_gtI, tot_upI, tot_bndX, tot_tryM, tot_tryO, tot_tryR, few0, rng_ok (show net.1.length ≤ 1000000 by omega)]
  refine tot_fd_rng (fun k z _ => BestI (cntsF net n) k z) ⟨fun _ => rfl, fun e => absurd e (Nat.lt_irrefl _)⟩ ?_ (fun z s1 e => e)
  intro v z s1 hv hz
  have hst := hz.step (cnts_at hv) (cnt_pos net n v)
  simp only [tot_bnd, tot_ret, tot_zm, tot_nw, tot_rb, tot_fzL, tot_drL, tot_gtLS, tot_upLS, tot_lft, tot_gtL, tot_upL, tot_bif, tot_some, tot_rtF, ex_some, ex_someT, and_true, true_and, implies_true, few0, few1, few2, few3, tot_zmI, tot_wp, tot_psh, tot_pshL, tot_gtI, tot_upI, tot_bndX, tot_tryM, tot_tryO, tot_tryR, few0]
  refine Tot.mono (Q := fun w => w.2.2 = dedF (colF net n v)) ?_ ?_
  · refine tot_fd (fun pre _ s => s.2 = dedF (pre.map fun r => r.getD v [])) rfl ?_ ?_
    · intro pre x post z2 s2 ep hI
      obtain ⟨f, hf, rfl⟩ : ∃ f, f ∈ allC net ∧ tipsA net f n = x := List.mem_map.mp (by rw [ep]; simp)
      obtain ⟨u, acc⟩ := s2
      dsimp only at hI
      subst hI
      have hlen : pre.length ≤ net.1.length + 1 := by
        have := congrArg List.length ep
        rw [List.length_map, lA, List.length_append] at this; omega
      have hd := (ded_facts (pre.map fun r => r.getD v [])).2.2
      rw [List.length_map] at hd
      have e2 : (tipsA net f n).getD v [] = tipsW net f n (v : Int) := getD_of (by simp [tipsA, hv])
      simp only [tot_bnd, tot_ret, tot_zm, tot_nw, tot_rb, tot_fzL, tot_drL, tot_gtLS, tot_upLS, tot_lft, tot_gtL, tot_upL, tot_bif, tot_some, tot_rtF, ex_some, ex_someT, and_true, true_and, implies_true, few0, few1, few2, few3, tot_zmI, tot_wp, tot_psh, tot_pshL, tot_gtI, tot_upI, tot_bndX, tot_tryM, tot_tryO, tot_tryR, row_at hv]
      rw [inDd_ok (de_lst de_int) (by decide)]
      rw [List.map_append, List.map_cons, List.map_nil, ded_snoc, e2]
      unfold dedS
      generalize dedF (pre.map fun r => r.getD v []) = acc at hd ⊢
      by_cases c : tipsW net f n (v : Int) ∈ acc
      · simp [c]
      · simp only [c, decide_false, Option.map_some, Bool.not_false, if_false]
        refine ⟨true, rfl, fun _ => ?_, fun e => (nomatch e)⟩
        exact ⟨_, T.app_ok (show _ < 1000000 by omega), rfl⟩
    · intro z2 s2 e
      dsimp only
      rw [e]
      unfold colF
      rw [List.map_map]
      congr 1
      refine List.map_congr_left fun f _ => ?_
      exact getD_of (by simp [tipsA, hv])
  · rintro ⟨z2, ⟨u, acc⟩⟩ e
    dsimp only at e
    subst e
    simp only [tot_bnd, tot_ret, tot_zm, tot_nw, tot_rb, tot_fzL, tot_drL, tot_gtLS, tot_upLS, tot_lft, tot_gtL, tot_upL, tot_bif, tot_some, tot_rtF, ex_some, ex_someT, and_true, true_and, implies_true, few0, few1, few2, few3, tot_zmI, tot_wp, tot_psh, tot_pshL, tot_gtI, tot_upI, tot_bndX, tot_tryM, tot_tryO, tot_tryR]
    refine ⟨fun c => ?_, fun c => ?_⟩
    · have e : bestS z ((v : Int), cntF net n v) = ((v : Int), cntF net n v) := if_pos (of_decide_eq_true c)
      rw [e] at hst
      exact hst
    · have e : bestS z ((v : Int), cntF net n v) = z := if_neg (of_decide_eq_false c)
      rw [e] at hst
      exact hst
def agreeF (net : Net) (n v : Nat) (seen : List Int) : List (Option Int) := (allC net).filter fun f => decide (tipsW net f n (v : Int) = seen)
theorem agree_told (net : Net) (n v : Nat) : (dedF ((allC net).map fun f => agreeF net n v (tipsW net f n (v : Int)))).length = (dedF (colF net n v)).length := by
  have e : ((allC net).map fun f => agreeF net n v (tipsW net f n (v : Int))) = (colF net n v).map (agreeF net n v) := by
    unfold colF
    rw [List.map_map]; rfl
  rw [e, ded_inj, List.length_map]
  intro a ha b hb q
  obtain ⟨f, hf, rfl⟩ := List.mem_map.mp ha
  have hm : f ∈ agreeF net n v (tipsW net f n (v : Int)) := List.mem_filter.mpr ⟨hf, decide_eq_true rfl⟩
  rw [q] at hm
  exact of_decide_eq_true (List.mem_filter.mp hm).2
theorem law_true (ns : List Int) : ∃ s1, m_law (ns, 0, 0) = some (true, s1) := by
  have e : Tot m_law (ns, 0, 0) (fun w => w.1 = true) := by
    have hd := fun i => divI_ok (i := i) (j := 3) (by decide) (by decide)
    unfold m_law
    refine tot_cut (fun w => NetOk w.1 ∧ w.1.1.length ≤ 12 ∧ w.1.2.length ≤ 12) ?_ fun net s1 h => ?_
    · simp only [tot_bnd, tot_ret, tot_zm, tot_nw, tot_rb, tot_fzL, tot_drL, tot_gtLS, tot_upLS, tot_lft, tot_gtL, tot_upL, tot_bif, tot_some, tot_rtF, ex_some, ex_someT, and_true, true_and, implies_true, few0, few1, few2, few3, tot_zmI, tot_wp, tot_psh, tot_pshL, tot_gtI, tot_upI, tot_bndX, tot_tryM, tot_tryO, tot_tryR]
      refine (draw (by decide) (by decide) _).mono fun w1 hw1 => ?_
      refine at_in (fun x => 1 ≤ x ∧ x ≤ 12) (by omega) (by simp; omega) (by simp) fun q hq => ?_
      refine (draw (by decide) (by decide) _).mono fun w2 hw2 => ?_
      exact (net_ok (by omega) (by omega) _).mono fun w h => ⟨h.1, by have := h.2.1; omega, h.2.2⟩
    dsimp only at h
    have g1 := h.1.n1
    refine tot_cut (fun w => ∃ n : Nat, w.1 = (n : Int) ∧ 1 ≤ n ∧ n ≤ 500) ?_ fun n0 s2 hn0 => ?_
    · simp only [tot_bnd, tot_ret, tot_zm, tot_nw, tot_rb, tot_fzL, tot_drL, tot_gtLS, tot_upLS, tot_lft, tot_gtL, tot_upL, tot_bif, tot_some, tot_rtF, ex_some, ex_someT, and_true, true_and, implies_true, few0, few1, few2, few3, tot_zmI, tot_wp, tot_psh, tot_pshL, tot_gtI, tot_upI, tot_bndX, tot_tryM, tot_tryO, tot_tryR, hd]
      refine (draw (by decide) (by decide) _).mono fun w1 hw1 => ?_
      refine (draw (by decide) (by decide) _).mono fun w2 hw2 => ?_
      refine (draw (by decide) (by decide) _).mono fun w3 hw3 => ?_
      refine (draw (by decide) (by decide) _).mono fun w4 hw4 => ?_
      refine at_in (fun x => 0 ≤ x ∧ x ≤ 499) (by omega) (by simp; omega) (by simp; omega) fun q hq => ?_
      exact ⟨(1 + q).toNat, by omega, by omega, by omega⟩
    obtain ⟨n, rfl, hn1, hn2⟩ := hn0
    have eR : rngS (net.1.length : Int) = some (rngL 0 net.1.length) := by unfold rngS; rw [if_pos (by omega)]; simp
    have eA : catL ([none] : List (Option Int)) ((rngL 0 net.1.length).map some) = some (allC net) := by
      rw [catL_ok (by simp [rngL_len]; show _ < 1000000; omega)]; rfl
    have lA := allC_len net
    have cA : chk (allC net) = some (allC net) := chk_ok (by rw [lA]; show _ < 1000000; omega)
    refine tot_cut (fun w => w = (allC net, s2)) ?_ fun some_ s3 e3 => ?_
    · simp only [tot_bnd, tot_ret, tot_zm, tot_nw, tot_rb, tot_fzL, tot_drL, tot_gtLS, tot_upLS, tot_lft, tot_gtL, tot_upL, tot_bif, tot_some, tot_rtF, ex_some, ex_someT, and_true, true_and, implies_true, few0, few1, few2, few3, tot_zmI, tot_wp, tot_psh, tot_pshL, tot_gtI, tot_upI, tot_bndX, tot_tryM, tot_tryO, tot_tryR, eR, eA]
    cases e3
    refine tot_cut (fun w => w = ((allC net).map fun f => tipsA net f n, s2)) ?_ fun rows s3 e3 => ?_
    · simp only [tot_bnd, tot_ret, tot_zm, tot_nw, tot_rb, tot_fzL, tot_drL, tot_gtLS, tot_upLS, tot_lft, tot_gtL, tot_upL, tot_bif, tot_some, tot_rtF, ex_some, ex_someT, and_true, true_and, implies_true, few0, few1, few2, few3, tot_zmI, tot_wp, tot_psh, tot_pshL, tot_gtI, tot_upI, tot_bndX, tot_tryM, tot_tryO, tot_tryR, cA]
      exact tot_mp_fn (fun f => tipsA net f n) (fun f _ s1 => by simp only [tot_bnd, tot_ret, tot_zm, tot_nw, tot_rb, tot_fzL, tot_drL, tot_gtLS, tot_upLS, tot_lft, tot_gtL, tot_upL, tot_bif, tot_some, tot_rtF, ex_some, ex_someT, and_true, true_and, implies_true, few0, few1, few2, few3, tot_zmI, tot_wp, tot_psh, tot_pshL, tot_gtI, tot_upI, tot_bndX, tot_tryM, tot_tryO, tot_tryR, law_tips_ok h.1 (show n ≤ 10000 by omega)]) rfl
    cases e3
    have lR : ((allC net).map fun f => tipsA net f n).length = net.1.length + 1 := by rw [List.length_map, lA]
    simp only [tot_bnd, tot_ret, tot_zm, tot_nw, tot_rb, tot_fzL, tot_drL, tot_gtLS, tot_upLS, tot_lft, tot_gtL, tot_upL, tot_some, tot_rtF, ex_some, ex_someT, and_true, true_and, implies_true, few0, few1, few2, few3, tot_zmI, tot_wp, tot_psh, tot_pshL, tot_gtI, tot_upI, tot_bndX, tot_tryM, tot_tryO, tot_tryR, few0]
    rw [show rng 0 (net.1.length : Int) = some (rngL 0 net.1.length) from rng_ok (by omega)]
    simp only [ex_some]
    refine tot_fd_rng (fun k _ s => s = (s2, (cntsF net n).take k)) (by simp) ?_ ?_
    · rintro v z s hv rfl
      have ct := cnts_at (n := n) hv
      have lc : (cntsF net n).length = net.1.length := by simp [cntsF]
      simp only [tot_bnd, tot_ret, tot_zm, tot_nw, tot_rb, tot_fzL, tot_drL, tot_gtLS, tot_upLS, tot_lft, tot_gtL, tot_upL, tot_bif, tot_some, tot_rtF, ex_some, ex_someT, and_true, true_and, implies_true, few0, few1, few2, few3, tot_zmI, tot_wp, tot_psh, tot_pshL, tot_gtI, tot_upI, tot_bndX, tot_tryM, tot_tryO, tot_tryR, chk_ok (show ((allC net).map fun f => tipsA net f n).length < lim by rw [lR]; show _ < 1000000; omega)]
      refine Tot.mono (Q := fun w => w = (colF net n v, (s2, (cntsF net n).take v))) ?_ ?_
      · refine tot_mp_fn (fun r => r.getD v []) (fun r hr s4 => ?_) ?_
        · obtain ⟨f, hf, rfl⟩ := List.mem_map.mp hr
          have e2 : (tipsA net f n).getD v [] = tipsW net f n (v : Int) := getD_of (by simp [tipsA, hv])
          simp only [tot_bnd, tot_ret, tot_zm, tot_nw, tot_rb, tot_fzL, tot_drL, tot_gtLS, tot_upLS, tot_lft, tot_gtL, tot_upL, tot_bif, tot_some, tot_rtF, ex_some, ex_someT, and_true, true_and, implies_true, few0, few1, few2, few3, tot_zmI, tot_wp, tot_psh, tot_pshL, tot_gtI, tot_upI, tot_bndX, tot_tryM, tot_tryO, tot_tryR, row_at hv, e2]
        · unfold colF
          rw [List.map_map]
          congr 1
          refine List.map_congr_left fun f _ => ?_
          exact getD_of (by simp [tipsA, hv])
      rintro _ rfl
      have ed : nDist (colF net n v) = some (cntF net n v) := by
        unfold nDist
        rw [if_pos (by rw [col_len]; omega), ← ded_uniq]; rfl
      simp only [ed, ex_some]
      refine ⟨_, T.app_ok (by rw [List.length_take]; show _ < 1000000; omega), ?_⟩
      rw [List.take_succ, ct]; rfl
    · rintro z s rfl
      have lc : (cntsF net n).length = net.1.length := by simp [cntsF]
      rw [← lc, List.take_length]
      obtain ⟨p, ep, hp⟩ := watch_ok (n := n) h.1 (by omega)
      rw [← lc] at hp
      obtain ⟨b1, b2, j, b3, b4⟩ := hp.done (by omega)
      obtain ⟨p1, p2⟩ := p
      dsimp only at b1 b2 b3 b4
      subst b3
      have hj : j < net.1.length := by rw [← lc]; exact (List.getElem?_eq_some_iff.mp b4).1
      have hp2 : p2 = cntF net n j := by rw [cnts_at hj] at b4; exact (Option.some.inj b4).symm
      have de_p : DE (dTh (daC dInt (daOne dInt))) 2 := de_th (dea_c de_int (dea_one de_int))
      refine ⟨_, ep, ?_⟩
      dsimp only
      refine Tot.mono (Q := fun w => w = (false, s2)) ?_ ?_
      · simp only [tot_bnd, tot_ret, tot_zm, tot_nw, tot_rb, tot_fzL, tot_drL, tot_gtLS, tot_upLS, tot_lft, tot_gtL, tot_upL, tot_bif, tot_some, tot_rtF, ex_some, ex_someT, and_true, true_and, implies_true, few0, few1, few2, few3, tot_zmI, tot_wp, tot_psh, tot_pshL, tot_gtI, tot_upI, tot_bndX, tot_tryM, tot_tryO, tot_tryR, b1, b2, Bool.not_true, neD_same de_p (by decide) ((j : Int), p2), Bool.false_eq_true, false_implies, true_implies, true_and]
      rintro _ rfl
      rw [tot_bif]
      refine ⟨fun e => (nomatch e), fun _ => ?_⟩
      refine tot_cut (fun w => w = (false, s2)) ?_ fun b s4 e4 => ?_
      · simp only [tot_bnd, tot_ret, tot_zm, tot_nw, tot_rb, tot_fzL, tot_drL, tot_gtLS, tot_upLS, tot_lft, tot_gtL, tot_upL, tot_bif, tot_some, tot_rtF, ex_some, ex_someT, and_true, true_and, implies_true, few0, few1, few2, few3, tot_zmI, tot_wp, tot_psh, tot_pshL, tot_gtI, tot_upI, tot_bndX, tot_tryM, tot_tryO, tot_tryR, chk_ok (show ([(j : Int), p2] : List Int).length < lim by show 2 < 1000000; decide)]
        refine tot_mp_fn (fun _ => false) (fun x _ s5 => by simp only [tot_bnd, tot_ret, tot_zm, tot_nw, tot_rb, tot_fzL, tot_drL, tot_gtLS, tot_upLS, tot_lft, tot_gtL, tot_upL, tot_bif, tot_some, tot_rtF, ex_some, ex_someT, and_true, true_and, implies_true, few0, few1, few2, few3, tot_zmI, tot_wp, tot_psh, tot_pshL, tot_gtI, tot_upI, tot_bndX, tot_tryM, tot_tryO, tot_tryR]) ?_
        simp
      cases e4
      rw [tot_bif]
      refine ⟨fun e => (nomatch e), fun _ => ?_⟩
      simp only [tot_bnd, tot_ret, tot_zm, tot_nw, tot_rb, tot_fzL, tot_drL, tot_gtLS, tot_upLS, tot_lft, tot_gtL, tot_upL, tot_some, tot_rtF, ex_some, ex_someT, and_true, true_and, implies_true, few0, few1, few2, few3, tot_zmI, tot_wp, tot_psh, tot_pshL, tot_gtI, tot_upI, tot_bndX, tot_tryM, tot_tryO, tot_tryR, few0]
      rw [tot_bif]
      refine ⟨fun _ => by simp only [tot_bnd, tot_ret, tot_zm, tot_nw, tot_rb, tot_fzL, tot_drL, tot_gtLS, tot_upLS, tot_lft, tot_gtL, tot_upL, tot_bif, tot_some, tot_rtF, ex_some, ex_someT, and_true, true_and, implies_true, few0, few1, few2, few3, tot_zmI, tot_wp, tot_psh, tot_pshL, tot_gtI, tot_upI, tot_bndX, tot_tryM, tot_tryO, tot_tryR], fun _ => ?_⟩
      refine tot_cut (fun w => w = (rngL 0 (allC net).length, (s2, []))) (by simp only [tot_bnd, tot_ret, tot_zm, tot_nw, tot_rb, tot_fzL, tot_drL, tot_gtLS, tot_upLS, tot_lft, tot_gtL, tot_upL, tot_bif, tot_some, tot_rtF, ex_some, ex_someT, and_true, true_and, implies_true, few0, few1, few2, few3, tot_zmI, tot_wp, tot_psh, tot_pshL, tot_gtI, tot_upI, tot_bndX, tot_tryM, tot_tryO, tot_tryR, rng_ok (show (allC net).length ≤ 1000000 by omega)]) fun q s4 e4 => ?_
      cases e4
      rw [tot_fthn]
      refine tot_fdE (fun pre _ s => s = (s2, dedF (((allC net).take pre.length).map fun f => agreeF net n j (tipsW net f n (j : Int))))) rfl ?_ ?_
      · rintro pre y post z4 s4 ep4 rfl
        have hy : (rngL 0 (allC net).length)[pre.length]? = some y := by rw [ep4]; simp
        obtain ⟨ey, hk⟩ := rngL_at hy
        obtain rfl : y = ((pre.length : Nat) : Int) := by omega
        generalize hkl : pre.length = k at hk
        have hkf := get_at none hk
        generalize hf : (allC net).getD k none = f at hkf
        have e6 : atI ((allC net).map fun f => tipsA net f n) (k : Int) = some (tipsA net f n) := T.atI_nat (by rw [List.getElem?_map, hkf]; rfl)
        have ec := cases_ok (seen := tipsW net f n (j : Int)) h.1 hj (show n ≤ 10000 by omega)
        have ec : m_cases net (j : Int) (n : Int) (tipsW net f n (j : Int)) = some (.inl (agreeF net n j (tipsW net f n (j : Int)))) := ec
        simp only [tot_bnd, tot_ret, tot_zm, tot_nw, tot_rb, tot_fzL, tot_drL, tot_gtLS, tot_upLS, tot_lft, tot_gtL, tot_upL, tot_bif, tot_some, tot_rtF, ex_some, ex_someT, and_true, true_and, implies_true, few0, few1, few2, few3, tot_zmI, tot_wp, tot_psh, tot_pshL, tot_gtI, tot_upI, tot_bndX, tot_tryM, tot_tryO, tot_tryR, e6, row_at hj, okO_inl ec, T.atI_nat hkf]
        have hmem : ((agreeF net n j (tipsW net f n (j : Int))).any fun b => decide (b = f)) = true := by
          rw [List.any_eq_true]
          exact ⟨f, List.mem_filter.mpr ⟨List.mem_of_getElem? hkf, decide_eq_true rfl⟩, decide_eq_true rfl⟩
        rw [hmem]
        refine ⟨fun e => (nomatch e), fun _ => ?_⟩
        rw [inDd_ok (de_lst de_optI7) (by decide)]
        rw [List.length_append, List.length_singleton, hkl, List.take_succ, hkf, Option.toList_some, List.map_append, List.map_cons, List.map_nil, ded_snoc]
        have hd4 := (ded_facts (((allC net).take k).map fun f => agreeF net n j (tipsW net f n (j : Int)))).2.2
        rw [List.length_map, List.length_take] at hd4
        unfold dedS
        generalize dedF (((allC net).take k).map fun f => agreeF net n j (tipsW net f n (j : Int))) = acc at hd4 ⊢
        by_cases c : agreeF net n j (tipsW net f n (j : Int)) ∈ acc
        · exact ⟨false, by simp [c], fun e => (nomatch e), fun _ => by rw [if_pos c]⟩
        · exact ⟨true, by simp [c], fun _ => ⟨_, T.app_ok (show _ < 1000000 by omega), by rw [if_neg c]⟩, fun e => (nomatch e)⟩
      · rintro z4 s4 rfl
        rw [rngL_len, List.take_length]
        simp only [tot_bnd, tot_ret, tot_zm, tot_nw, tot_rb, tot_fzL, tot_drL, tot_gtLS, tot_upLS, tot_lft, tot_gtL, tot_upL, tot_bif, tot_some, tot_rtF, ex_some, ex_someT, and_true, true_and, implies_true, few0, few1, few2, few3, tot_zmI, tot_wp, tot_psh, tot_pshL, tot_gtI, tot_upI, tot_bndX, tot_tryM, tot_tryO, tot_tryR, agree_told]
        rw [hp2]
        exact decide_eq_true rfl
  obtain ⟨⟨b, s1⟩, e1, e2⟩ := e
  dsimp only at e2
  subst e2
  exact ⟨s1, e1⟩

end Law

namespace Law
open PySem PySem.Spec PyProof.Rows L2 T
/-! the head -/
def fn : List He.DefD := [dd ("dry", none) "dry" "dry" s_dry, dd ("need_vessel", none) "need_vessel" "need_vessel" s_need_vessel, dd ("first_state", none) "first_state" "first_state" s_first_state, dd ("filled", none) "filled" "filled" s_filled, dd ("tipped_out", none) "tipped_out" "tipped_out" s_tipped_out, dd ("doors_behind", none) "doors_behind" "doors_behind" s_doors_behind, dd ("tick_with", none) "tick_with" "tick_with" s_tick_with, dd ("_law_draw", none) "_law_draw" "_law_draw" s_law_draw, dd ("_law_outs", none) "_law_outs" "_law_outs" s_law_outs, dd ("_law_vessel", none) "_law_vessel" "_law_vessel" s_law_vessel, dd ("_law_net", none) "_law_net" "_law_net" s_law_net, dd ("_law_first", none) "_law_first" "_law_first" s_law_first, dd ("_law_filled", none) "_law_filled" "_law_filled" s_law_filled, dd ("_law_tick", none) "_law_tick" "_law_tick" s_law_tick, dd ("tips_in", none) "tips_in" "tips_in" s_tips_in, dd ("all_cases", none) "all_cases" "all_cases" s_all_cases, dd ("cases", none) "cases" "cases" s_cases, dd ("_law_walk", none) "_law_walk" "_law_walk" s_law_walk, dd ("_law_tips", none) "_law_tips" "_law_tips" s_law_tips, dd ("best_watch", none) "best_watch" "best_watch" s_best_watch, dd ("law", none) "law" "law" s_law, dd ("Pouring", some "__init__") "__init__" "Pouring.__init__" s_Pouring_init, dd ("Pouring", some "give") "give" "Pouring.give" s_Pouring_give]
def fa : List He.Fa := [.glo "dry", .glo "need_vessel", .glo "first_state", .glo "filled", .glo "tipped_out", .glo "doors_behind", .glo "tick_with", .glo "_law_draw", .glo "_law_outs", .glo "_law_vessel", .glo "_law_net", .glo "_law_first", .glo "_law_filled", .glo "_law_tick", .glo "tips_in", .glo "all_cases", .glo "cases", .glo "_law_walk", .glo "_law_tips", .glo "best_watch", .glo "law", .free "bool", .free "divmod", .free "enumerate", .free "int", .free "isinstance", .free "len", .free "list", .free "max", .free "min", .free "range", .free "set", .free "sum", .free "tuple", .glo "NoVessel", .exc "NoVessel", .glo "Pouring", .cls "Pouring", .noat "Pouring" "later", .noat "Pouring" "ground", .mkr "Pouring", .meth "Pouring" "give"]
def tb : List (Str × List He.Dv) := []
def loose : List Str := (["TipError", "NoVessel", "first_state", "filled", "Pouring", "tipped_out", "doors_behind", "tick_with", "dry", "need_vessel", "tips_in", "all_cases", "cases", "best_watch", "_law_draw", "_law_outs", "_law_vessel", "_law_net", "_law_first", "_law_filled", "_law_tick", "_law_walk", "_law_tips"] : List Str)
def xtab : XTab := []
abbrev R : PySem.W.OpenRow := PySem.W.OpenLaw.row PySem.Challenge.rw_tipwell_k27_whole_best_watch
abbrev hk : PySem.W.Hook := hookX 5 xtab tb fa fn
def ob (s : PySem.W.SharedT) : Bool × Bool × He.AlD := obsX xtab tb fa fn (He.frG (HandSHeadRun.getT s) (He.asD (HandSHeadRun.getT s) 5))
theorem ob_eq (s : PySem.W.SharedT) : ob s = hk.obs s.abs := obsX_eq (HandSHeadRun.getT_eq s)
theorem run (w : World) : HandSHeadRun.RunEq R (PySem.W.view R.prog [28]) hk ob 6000 loose w := by
  intro os
  kernel_rfl
theorem facts {P : Program} {w : World} {K : PySem.W.Frag} {h : Heap} {mg : Str → Option Value} {f : Addr} (X : K.In h) (G : h.Ns mainGlobals mg) (hfa : mg ("law" : Str) = some (.ref f)) (c00 : SaysX xtab tb fa fn K) (hL : ∀ ns : List Int, ns.length ≤ 63 → ∃ s1, m_law (ns, 0, 0) = some (true, s1)) :
    ∃ fd : FuncData, (∀ (s : Shared) (v : Value), BindsTo s fd ⟨[v], []⟩ [("script", v)]) ∧ ∀ base : Heap, K.In base → base.Ns mainGlobals mg → FnOk P w K mg base CX0 6 f fd ["script"] (spLaw K) := by
  have c0 : SaysT tb fa fn K := c00.T
  have c : He.SaysD fa fn K := c0.D
  obtain ⟨d0, D0⟩ := c.def_ 0 (d := dd ("dry", none) "dry" "dry" s_dry) rfl
  obtain ⟨d1, D1⟩ := c.def_ 1 (d := dd ("need_vessel", none) "need_vessel" "need_vessel" s_need_vessel) rfl
  obtain ⟨d2, D2⟩ := c.def_ 2 (d := dd ("first_state", none) "first_state" "first_state" s_first_state) rfl
  obtain ⟨d3, D3⟩ := c.def_ 3 (d := dd ("filled", none) "filled" "filled" s_filled) rfl
  obtain ⟨d4, D4⟩ := c.def_ 4 (d := dd ("tipped_out", none) "tipped_out" "tipped_out" s_tipped_out) rfl
  obtain ⟨d5, D5⟩ := c.def_ 5 (d := dd ("doors_behind", none) "doors_behind" "doors_behind" s_doors_behind) rfl
  obtain ⟨d6, D6⟩ := c.def_ 6 (d := dd ("tick_with", none) "tick_with" "tick_with" s_tick_with) rfl
  obtain ⟨d7, D7⟩ := c.def_ 7 (d := dd ("_law_draw", none) "_law_draw" "_law_draw" s_law_draw) rfl
  obtain ⟨d8, D8⟩ := c.def_ 8 (d := dd ("_law_outs", none) "_law_outs" "_law_outs" s_law_outs) rfl
  obtain ⟨d9, D9⟩ := c.def_ 9 (d := dd ("_law_vessel", none) "_law_vessel" "_law_vessel" s_law_vessel) rfl
  obtain ⟨d10, D10⟩ := c.def_ 10 (d := dd ("_law_net", none) "_law_net" "_law_net" s_law_net) rfl
  obtain ⟨d11, D11⟩ := c.def_ 11 (d := dd ("_law_first", none) "_law_first" "_law_first" s_law_first) rfl
  obtain ⟨d12, D12⟩ := c.def_ 12 (d := dd ("_law_filled", none) "_law_filled" "_law_filled" s_law_filled) rfl
  obtain ⟨d13, D13⟩ := c.def_ 13 (d := dd ("_law_tick", none) "_law_tick" "_law_tick" s_law_tick) rfl
  obtain ⟨d14, D14⟩ := c.def_ 14 (d := dd ("tips_in", none) "tips_in" "tips_in" s_tips_in) rfl
  obtain ⟨d15, D15⟩ := c.def_ 15 (d := dd ("all_cases", none) "all_cases" "all_cases" s_all_cases) rfl
  obtain ⟨d16, D16⟩ := c.def_ 16 (d := dd ("cases", none) "cases" "cases" s_cases) rfl
  obtain ⟨d17, D17⟩ := c.def_ 17 (d := dd ("_law_walk", none) "_law_walk" "_law_walk" s_law_walk) rfl
  obtain ⟨d18, D18⟩ := c.def_ 18 (d := dd ("_law_tips", none) "_law_tips" "_law_tips" s_law_tips) rfl
  obtain ⟨d19, D19⟩ := c.def_ 19 (d := dd ("best_watch", none) "best_watch" "best_watch" s_best_watch) rfl
  obtain ⟨d20, D20⟩ := c.def_ 20 (d := dd ("law", none) "law" "law" s_law) rfl
  obtain ⟨d21, D21⟩ := c.def_ 21 (d := dd ("Pouring", some "__init__") "__init__" "Pouring.__init__" s_Pouring_init) rfl
  obtain ⟨d22, D22⟩ := c.def_ 22 (d := dd ("Pouring", some "give") "give" "Pouring.give" s_Pouring_give) rfl
  have F0 := fun_of_D (st := s_dry) D0
  have F1 := fun_of_D (st := s_need_vessel) D1
  have F2 := fun_of_D (st := s_first_state) D2
  have F3 := fun_of_D (st := s_filled) D3
  have F4 := fun_of_D (st := s_tipped_out) D4
  have F5 := fun_of_D (st := s_doors_behind) D5
  have F6 := fun_of_D (st := s_tick_with) D6
  have F7 := fun_of_D (st := s_law_draw) D7
  have F8 := fun_of_D (st := s_law_outs) D8
  have F9 := fun_of_D (st := s_law_vessel) D9
  have F10 := fun_of_D (st := s_law_net) D10
  have F11 := fun_of_D (st := s_law_first) D11
  have F12 := fun_of_D (st := s_law_filled) D12
  have F13 := fun_of_D (st := s_law_tick) D13
  have F14 := fun_of_D (st := s_tips_in) D14
  have F15 := fun_of_D (st := s_all_cases) D15
  have F16 := fun_of_D (st := s_cases) D16
  have F17 := fun_of_D (st := s_law_walk) D17
  have F18 := fun_of_D (st := s_law_tips) D18
  have F19 := fun_of_D (st := s_best_watch) D19
  have F20 := fun_of_D (st := s_law) D20
  have F21 := fun_of_D (st := s_Pouring_init) D21
  have F22 := fun_of_D (st := s_Pouring_give) D22
  have e := hfa.symm.trans (He.glo_ok X G (c.fact 20 (f := .glo "law") rfl))
  cases e
  have T : Txt K mg := ⟨He.free_ok X G (c.fact 21 (f := .free "bool") rfl), He.free_ok X G (c.fact 22 (f := .free "divmod") rfl), He.free_ok X G (c.fact 23 (f := .free "enumerate") rfl), He.free_ok X G (c.fact 24 (f := .free "int") rfl), He.free_ok X G (c.fact 25 (f := .free "isinstance") rfl), He.free_ok X G (c.fact 26 (f := .free "len") rfl), He.free_ok X G (c.fact 27 (f := .free "list") rfl), He.free_ok X G (c.fact 28 (f := .free "max") rfl), He.free_ok X G (c.fact 29 (f := .free "min") rfl), He.free_ok X G (c.fact 30 (f := .free "range") rfl), He.free_ok X G (c.fact 31 (f := .free "set") rfl), He.free_ok X G (c.fact 32 (f := .free "sum") rfl), He.free_ok X G (c.fact 33 (f := .free "tuple") rfl), ⟨He.glo_ok X G (c.fact 34 (f := .glo "NoVessel") rfl), (He.exc_ok (c.fact 35 (f := .exc "NoVessel") rfl)).1, (He.exc_ok (c.fact 35 (f := .exc "NoVessel") rfl)).2.1, (He.exc_ok (c.fact 35 (f := .exc "NoVessel") rfl)).2.2.1, (He.exc_ok (c.fact 35 (f := .exc "NoVessel") rfl)).2.2.2⟩⟩
  have TP : PourT K (He.ga K "Pouring") := ⟨He.cls_ok (c.fact 37 (f := .cls "Pouring") rfl), He.noat_ok (c.fact 38 (f := .noat "Pouring" "later") rfl), He.noat_ok (c.fact 39 (f := .noat "Pouring" "ground") rfl)⟩
  have b := FunD.bindsA (ps := ["script"]) D20 fun _ _ _ _ _ _ us hl => match us, hl with | [_], _ => rfl
  refine ⟨d20, fun s v => b s [v] rfl, fun base _ _ => ?_⟩
  have c_law_draw : Kn P w K mg base CX0 1 "_law_draw" ["tape", "many"] sp_law_draw := kn_of F7 (He.glo_ok X G (c.fact 7 (f := .glo "_law_draw") rfl)) (F7.binds (ps := ["tape", "many"]) fun _ _ _ _ _ _ us hl => match us, hl with | [_, _], _ => rfl) (ok_law_draw F7 T)
  have c_law_outs : Kn P w K mg base CX0 2 "_law_outs" ["tape", "many", "small"] sp_law_outs := kn_of F8 (He.glo_ok X G (c.fact 8 (f := .glo "_law_outs") rfl)) (F8.binds (ps := ["tape", "many", "small"]) fun _ _ _ _ _ _ us hl => match us, hl with | [_, _, _], _ => rfl) (ok_law_outs F8 T c_law_draw)
  have c_law_vessel : Kn P w K mg base CX0 3 "_law_vessel" ["tape", "number", "many", "spouts", "small"] sp_law_vessel := kn_of F9 (He.glo_ok X G (c.fact 9 (f := .glo "_law_vessel") rfl)) (F9.binds (ps := ["tape", "number", "many", "spouts", "small"]) fun _ _ _ _ _ _ us hl => match us, hl with | [_, _, _, _, _], _ => rfl) (ok_law_vessel F9 T c_law_draw c_law_outs)
  have c_law_net : Kn P w K mg base CX0 4 "_law_net" ["tape", "most", "small"] sp_law_net := kn_of F10 (He.glo_ok X G (c.fact 10 (f := .glo "_law_net") rfl)) (F10.binds (ps := ["tape", "most", "small"]) fun _ _ _ _ _ _ us hl => match us, hl with | [_, _, _], _ => rfl) (ok_law_net F10 T c_law_draw c_law_vessel)
  have c_law_first : Kn P w K mg base CX0 1 "_law_first" ["net"] sp_law_first := kn_of F11 (He.glo_ok X G (c.fact 11 (f := .glo "_law_first") rfl)) (F11.binds (ps := ["net"]) fun _ _ _ _ _ _ us hl => match us, hl with | [_], _ => rfl) (ok_law_first F11 T)
  have c_law_filled : Kn P w K mg base CX0 1 "_law_filled" ["net", "state", "poured"] sp_law_filled := kn_of F12 (He.glo_ok X G (c.fact 12 (f := .glo "_law_filled") rfl)) (F12.binds (ps := ["net", "state", "poured"]) fun _ _ _ _ _ _ us hl => match us, hl with | [_, _, _], _ => rfl) (ok_law_filled F12 T)
  have c_law_tick : Kn P w K mg base CX0 2 "_law_tick" ["net", "state", "poured", "fast"] sp_law_tick := kn_of F13 (He.glo_ok X G (c.fact 13 (f := .glo "_law_tick") rfl)) (F13.binds (ps := ["net", "state", "poured", "fast"]) fun _ _ _ _ _ _ us hl => match us, hl with | [_, _, _, _], _ => rfl) (ok_law_tick F13 T c_law_filled)
  have c_law_walk : Kn P w K mg base CX0 3 "_law_walk" ["net", "ticks", "fast"] sp_law_walk := kn_of F17 (He.glo_ok X G (c.fact 17 (f := .glo "_law_walk") rfl)) (F17.binds (ps := ["net", "ticks", "fast"]) fun _ _ _ _ _ _ us hl => match us, hl with | [_, _, _], _ => rfl) (ok_law_walk F17 T c_law_first c_law_tick)
  have c_law_tips : Kn P w K mg base CX0 4 "_law_tips" ["net", "ticks", "fast"] sp_law_tips := kn_of F18 (He.glo_ok X G (c.fact 18 (f := .glo "_law_tips") rfl)) (F18.binds (ps := ["net", "ticks", "fast"]) fun _ _ _ _ _ _ us hl => match us, hl with | [_, _, _], _ => rfl) (ok_law_tips F18 T c_law_walk)
  have c_all_cases : Kn P w K mg base CX0 1 "all_cases" ["net"] sp_all_cases := kn_of F15 (He.glo_ok X G (c.fact 15 (f := .glo "all_cases") rfl)) (F15.binds (ps := ["net"]) fun _ _ _ _ _ _ us hl => match us, hl with | [_], _ => rfl) (ok_all_cases F15 T)
  have c_first_state : Kn P w K mg base CX0 1 "first_state" ["net"] sp_first_state := kn_of F2 (He.glo_ok X G (c.fact 2 (f := .glo "first_state") rfl)) (F2.binds (ps := ["net"]) fun _ _ _ _ _ _ us hl => match us, hl with | [_], _ => rfl) (ok_first_state F2 T)
  have c_filled : Kn P w K mg base CX0 1 "filled" ["net", "state", "poured"] sp_filled := kn_of F3 (He.glo_ok X G (c.fact 3 (f := .glo "filled") rfl)) (F3.binds (ps := ["net", "state", "poured"]) fun _ _ _ _ _ _ us hl => match us, hl with | [_, _, _], _ => rfl) (ok_filled F3 T)
  have c_Pouring_init : KnC P w K mg base CX0 1 "Pouring" (He.ga K "Pouring") ["self", "many"] (spPourInit (He.ga K "Pouring")) := ⟨He.glo_ok X G (c.fact 36 (f := .glo "Pouring") rfl), _, _, He.mkr_ok (c.fact 40 (f := .mkr "Pouring") rfl), F21.binds (ps := ["self", "many"]) fun _ _ _ _ _ _ us hl => match us, hl with | [_, _], _ => rfl, ok_Pouring_init F21 TP⟩
  have c_Pouring_give : KnM P w K mg base CX0 1 "give" (He.ga K "Pouring") ["self", "target", "amount"] (spPourGive (He.ga K "Pouring")) := ⟨TP.cl, _, _, He.meth_ok (c.fact 41 (f := .meth "Pouring" "give") rfl), F22.binds (ps := ["self", "target", "amount"]) fun _ _ _ _ _ _ us hl => match us, hl with | [_, _, _], _ => rfl, ok_Pouring_give F22 TP⟩
  have c_tipped_out : Kn P w K mg base CX0 2 "tipped_out" ["vessel", "amount", "pouring"] (sp_tipped_out (He.ga K "Pouring")) := kn_of F4 (He.glo_ok X G (c.fact 4 (f := .glo "tipped_out") rfl)) (F4.binds (ps := ["vessel", "amount", "pouring"]) fun _ _ _ _ _ _ us hl => match us, hl with | [_, _, _], _ => rfl) (ok_tipped_out F4 T TP c_Pouring_give)
  have c_doors_behind : Kn P w K mg base CX0 1 "doors_behind" ["net", "doors", "tipped"] sp_doors_behind := kn_of F5 (He.glo_ok X G (c.fact 5 (f := .glo "doors_behind") rfl)) (F5.binds (ps := ["net", "doors", "tipped"]) fun _ _ _ _ _ _ us hl => match us, hl with | [_, _, _], _ => rfl) (ok_doors_behind F5 T)
  have c_tick_with : Kn P w K mg base CX0 3 "tick_with" ["net", "state", "poured", "stuck"] sp_tick_with := kn_of F6 (He.glo_ok X G (c.fact 6 (f := .glo "tick_with") rfl)) (F6.binds (ps := ["net", "state", "poured", "stuck"]) fun _ _ _ _ _ _ us hl => match us, hl with | [_, _, _, _], _ => rfl) (ok_tick_with F6 T TP c_filled c_Pouring_init c_Pouring_give c_tipped_out c_doors_behind)
  have c_dry : Kn P w K mg base CX0 1 "dry" ["net"] sp_dry := kn_of F0 (He.glo_ok X G (c.fact 0 (f := .glo "dry") rfl)) (F0.binds (ps := ["net"]) fun _ _ _ _ _ _ us hl => match us, hl with | [_], _ => rfl) (ok_dry F0 T)
  have c_tips_in : Kn P w K mg base CX0 4 "tips_in" ["net", "ticks", "fast"] sp_tips_in := kn_of F14 (He.glo_ok X G (c.fact 14 (f := .glo "tips_in") rfl)) (F14.binds (ps := ["net", "ticks", "fast"]) fun _ _ _ _ _ _ us hl => match us, hl with | [_, _, _], _ => rfl) (ok_tips_in F14 T c_first_state c_tick_with c_dry)
  have c_best_watch : Kn P w K mg base CX0 5 "best_watch" ["net", "ticks"] sp_best_watch := kn_of F19 (He.glo_ok X G (c.fact 19 (f := .glo "best_watch") rfl)) (F19.binds (ps := ["net", "ticks"]) fun _ _ _ _ _ _ us hl => match us, hl with | [_, _], _ => rfl) (ok_best_watch F19 T c_all_cases c_tips_in)
  have c_need_vessel : Kn P w K mg base (L2.CX P w) 1 "need_vessel" ["net", "vessel"] (sp_need_vessel K) := kn_of F1 (He.glo_ok X G (c.fact 1 (f := .glo "need_vessel") rfl)) (F1.binds (ps := ["net", "vessel"]) fun _ _ _ _ _ _ us hl => match us, hl with | [_, _], _ => rfl) (ok_need_vessel F1 T)
  have c_cases : Kn P w K mg base (L2.CX P w) 5 "cases" ["net", "watched", "ticks", "seen"] (sp_cases K) := kn_of F16 (He.glo_ok X G (c.fact 16 (f := .glo "cases") rfl)) (F16.binds (ps := ["net", "watched", "ticks", "seen"]) fun _ _ _ _ _ _ us hl => match us, hl with | [_, _, _, _], _ => rfl) (ok_cases F16 T c_need_vessel c_all_cases c_tips_in)
  exact ok_law F20 T c_law_net c_law_draw c_law_tips c_best_watch c_cases hL
end Law
open PySem PySem.W PySem.Calls PyProof.Rows in
theorem Law.holds (hL : ∀ ns : List Int, ns.length ≤ 63 → ∃ s1, Law.m_law (ns, 0, 0) = some (true, s1)) : PySem.Challenge.rw_tipwell_k27_whole_best_watch.Holds := by
  w_on; o_law
  refine HandSHeadRun.head_any (r := OpenLaw.row PySem.Challenge.rw_tipwell_k27_whole_best_watch) (q := view (OpenLaw.row PySem.Challenge.rw_tipwell_k27_whole_best_watch).prog [28]) (H := Law.hk) (ob := Law.ob) (M := 6000) (loose := Law.loose) (d := HandSHeadRun.topDef (OpenLaw.row PySem.Challenge.rw_tipwell_k27_whole_best_watch).prog 28) (kwd := []) Law.ob_eq
    (by kernel_rfl) (fun s => by kernel_rfl) Law.run (by kernel_rfl) (by kernel_rfl) (by kernel_rfl) (by rfl) (by first | assumption | decide +kernel) (by decide +kernel) ⟨rfl, rfl, rfl, rfl, rfl, by decide +kernel⟩ ?hw ?hc
  case hw => w_witness2
  case hc =>
    refine L2.walk_ofE (l := PySem.Challenge.rw_tipwell_k27_whole_best_watch) (n := 63) (k := 6) (x := "script") (CX := L2.CX0) rfl (by decide) (by kernel_rfl) ⟨rfl, by decide, by decide⟩ ?F (fun _ _ _ _ z => z)
    intro w mg fa h Y G hmg0
    obtain ⟨K, KX, c⟩ := Y
    have hmg : mg ("law" : PySem.Str) = some (.ref fa) := by
      have e : (HandSHeadRun.topDef (OpenLaw.row PySem.Challenge.rw_tipwell_k27_whole_best_watch).prog 28).name = ("law" : PySem.Str) := by kernel_rfl
      rw [← e]
      exact hmg0
    obtain ⟨fd, hb, hF⟩ := Law.facts (P := (PySem.Challenge.rw_tipwell_k27_whole_best_watch).prog) (w := w) KX G hmg c hL
    exact ⟨K, fd, T.spLaw K, KX, hb, fun H a ns hl _ hS => ⟨a, ns, rfl, hS, hl, fun _ => rfl⟩, hF⟩

theorem PySem.Challenge.cw_tipwell_k27_whole_best_watch_holds : PySem.Challenge.rw_tipwell_k27_whole_best_watch.Holds := by
  exact Law.holds fun ns hn => Law.law_true ns
