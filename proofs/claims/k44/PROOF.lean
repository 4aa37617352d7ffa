import PyProof.Rows.All
import HandS.ForMost
import HandS.ForExc
import HandS.Deep
import HandS.SortInts
import HandS.SortRule
import HandS.IsInst
import HandS.WordsDict
import HandS.Conv
import KE.DatumOrd
import HandS.Comp
import HandS.HotCalls
import HandS.WordsExc
import HandS.Small
import PySem.Challenge.RW_everyorgan_k44_whole_which_sets_of_heari
import HandS.ExcIs
set_option Elab.async false
set_option linter.all false
set_option maxRecDepth 100000
/-! VA: data as trees, who owns what, how a tree lies in the abstract heap, how states evolve. -/
namespace VS
open PySem PySem.Spec PyProof.Rows L2

/-- data as trees -/
inductive D where
  | non | bl (b : Bool) | int (i : Int) | str (s : Str)
  | lst (xs : List D)
  | tup (xs : List D)
  | ins (c : Nat) (fs : List (Str × D))
  | dK (kvs : List (Key × D))
  | dT (kvs : List (List Key × D))
/-- how a tree is held: shared for ever; its root its owner's, what hangs on it shared; wholly its owner's; below such a root -/
inductive Md where
  | fz | rt | dp | sb
  deriving DecidableEq
/-- an owner: a slot of the frame, a value that is under way -/
inductive Id where
  | s (i : Nat) | t (n : Nat)
  deriving DecidableEq
/-- whose an address is: nobody's here, shared, a root, below a root -/
inductive Own where
  | no | fz | rt (i : Id) | sb (i : Id)
  deriving DecidableEq
abbrev Wh := Addr → Own

def Md.child : Md → Md
  | .fz => .fz
  | .rt => .fz
  | .dp => .sb
  | .sb => .sb
/-- whose a changeable object of a tree so held is -/
def Md.own (i : Id) : Md → Own
  | .fz => .fz
  | .rt => .rt i
  | .dp => .rt i
  | .sb => .sb i

section
variable (C : Nat → Addr) (w : Wh) (H : Hp)
mutual
/-- the tree d, held as m by i, lies at the value v -/
def Rep : D → Md → Id → V → Prop
  | .non, _, _, v => v = .non
  | .bl b, _, _, v => v = .bl b
  | .int i, _, _, v => v = .int i
  | .str x, _, _, v => v = .str x
  | .lst xs, m, i, v => ∃ a vs, v = .ref a ∧ w a = m.own i ∧ (H a = some (.lst vs) ∨ m = .fz ∧ ∃ o, H a = some (.frz o (.lst vs))) ∧ RepL xs m.child i vs
  | .tup xs, m, i, v => ∃ a vs, v = .ref a ∧ w a = .fz ∧ H a = some (.tup vs) ∧ RepL xs m.child i vs
  | .ins c fs, m, i, v => ∃ a dx vs, v = .ref a ∧ w a = m.own i ∧ H a = some (.ins (C c) dx vs) ∧ RepF fs m.child i vs
  | .dK kvs, m, i, v => ∃ a vs, v = .ref a ∧ w a = m.own i ∧ H a = some (.dK vs) ∧ RepK kvs m.child i vs
  | .dT kvs, m, i, v => ∃ a vs, v = .ref a ∧ w a = m.own i ∧ H a = some (.dT vs) ∧ RepT kvs m.child i vs
def RepL : List D → Md → Id → List V → Prop
  | [], _, _, vs => vs = []
  | d :: r, m, i, vs => ∃ v vr, vs = v :: vr ∧ Rep d m i v ∧ RepL r m i vr
def RepF : List (Str × D) → Md → Id → List (Str × V) → Prop
  | [], _, _, vs => vs = []
  | (f, d) :: r, m, i, vs => ∃ v vr, vs = (f, v) :: vr ∧ Rep d m i v ∧ RepF r m i vr
def RepK : List (Key × D) → Md → Id → List (Key × V) → Prop
  | [], _, _, vs => vs = []
  | (f, d) :: r, m, i, vs => ∃ v vr, vs = (f, v) :: vr ∧ Rep d m i v ∧ RepK r m i vr
def RepT : List (List Key × D) → Md → Id → List (List Key × V) → Prop
  | [], _, _, vs => vs = []
  | (f, d) :: r, m, i, vs => ∃ v vr, vs = (f, v) :: vr ∧ Rep d m i v ∧ RepT r m i vr
end
end

mutual
/-- nothing in it can be changed -/
def imm : D → Bool
  | .non => true | .bl _ => true | .int _ => true | .str _ => true
  | .tup xs => immL xs
  | .lst _ => false | .ins _ _ => false | .dK _ => false | .dT _ => false
def immL : List D → Bool
  | [] => true
  | d :: r => imm d && immL r
end


/-! ### one lemma for all changes of owners and heaps -/
theorem Md.cc (m : Md) : m.child.child = m.child := by cases m <;> rfl
section
variable {C : Nat → Addr} {w w' : Wh} {H H' : Hp} {i i' : Id}
/-- what a change must keep of the objects of a tree -/
structure Keeps (w w' : Wh) (H H' : Hp) (m m' : Md) (i i' : Id) : Prop where
  hm : m = .fz → m' = .fz
  h0 : ∀ a o, H a = some o → w a = m.own i → w' a = m'.own i' ∧ H' a = some o
  hf : ∀ a vs, H a = some (.tup vs) → w a = .fz → w' a = .fz ∧ H' a = some (.tup vs)
mutual
theorem Rep.map : ∀ (d : D) (m m' : Md) (v : V), Keeps w w' H H' m m' i i' → Keeps w w' H H' m.child m'.child i i' → Rep C w H d m i v → Rep C w' H' d m' i' v
  | .non, _, _, _, _, _, h => h
  | .bl _, _, _, _, _, _, h => h
  | .int _, _, _, _, _, _, h => h
  | .str _, _, _, _, _, _, h => h
  | .lst xs, m, m', v, k, kc, ⟨a, vs, e, hw, hH, hr⟩ => by
    refine ⟨a, vs, e, ?_, ?_, RepL.map xs m.child m'.child vs kc (by rw [Md.cc, Md.cc]; exact kc) hr⟩
    · rcases hH with h | ⟨_, o, h⟩ <;> exact (k.h0 a _ h hw).1
    · rcases hH with h | ⟨em, o, h⟩
      · exact .inl (k.h0 a _ h hw).2
      · exact .inr ⟨k.hm em, o, (k.h0 a _ h hw).2⟩
  | .tup xs, m, m', v, k, kc, ⟨a, vs, e, hw, hH, hr⟩ => ⟨a, vs, e, (k.hf a _ hH hw).1, (k.hf a _ hH hw).2, RepL.map xs m.child m'.child vs kc (by rw [Md.cc, Md.cc]; exact kc) hr⟩
  | .ins c fs, m, m', v, k, kc, ⟨a, dx, vs, e, hw, hH, hr⟩ => ⟨a, dx, vs, e, (k.h0 a _ hH hw).1, (k.h0 a _ hH hw).2, RepF.map fs m.child m'.child vs kc (by rw [Md.cc, Md.cc]; exact kc) hr⟩
  | .dK fs, m, m', v, k, kc, ⟨a, vs, e, hw, hH, hr⟩ => ⟨a, vs, e, (k.h0 a _ hH hw).1, (k.h0 a _ hH hw).2, RepK.map fs m.child m'.child vs kc (by rw [Md.cc, Md.cc]; exact kc) hr⟩
  | .dT fs, m, m', v, k, kc, ⟨a, vs, e, hw, hH, hr⟩ => ⟨a, vs, e, (k.h0 a _ hH hw).1, (k.h0 a _ hH hw).2, RepT.map fs m.child m'.child vs kc (by rw [Md.cc, Md.cc]; exact kc) hr⟩
theorem RepL.map : ∀ (ds : List D) (m m' : Md) (vs : List V), Keeps w w' H H' m m' i i' → Keeps w w' H H' m.child m'.child i i' → RepL C w H ds m i vs → RepL C w' H' ds m' i' vs
  | [], _, _, _, _, _, h => h
  | d :: r, m, m', vs, k, kc, ⟨v, vr, e, h1, h2⟩ => ⟨v, vr, e, Rep.map d m m' v k kc h1, RepL.map r m m' vr k kc h2⟩
theorem RepF.map : ∀ (ds : List (Str × D)) (m m' : Md) (vs : List (Str × V)), Keeps w w' H H' m m' i i' → Keeps w w' H H' m.child m'.child i i' → RepF C w H ds m i vs → RepF C w' H' ds m' i' vs
  | [], _, _, _, _, _, h => h
  | (f, d) :: r, m, m', vs, k, kc, ⟨v, vr, e, h1, h2⟩ => ⟨v, vr, e, Rep.map d m m' v k kc h1, RepF.map r m m' vr k kc h2⟩
theorem RepK.map : ∀ (ds : List (Key × D)) (m m' : Md) (vs : List (Key × V)), Keeps w w' H H' m m' i i' → Keeps w w' H H' m.child m'.child i i' → RepK C w H ds m i vs → RepK C w' H' ds m' i' vs
  | [], _, _, _, _, _, h => h
  | (f, d) :: r, m, m', vs, k, kc, ⟨v, vr, e, h1, h2⟩ => ⟨v, vr, e, Rep.map d m m' v k kc h1, RepK.map r m m' vr k kc h2⟩
theorem RepT.map : ∀ (ds : List (List Key × D)) (m m' : Md) (vs : List (List Key × V)), Keeps w w' H H' m m' i i' → Keeps w w' H H' m.child m'.child i i' → RepT C w H ds m i vs → RepT C w' H' ds m' i' vs
  | [], _, _, _, _, _, h => h
  | (f, d) :: r, m, m', vs, k, kc, ⟨v, vr, e, h1, h2⟩ => ⟨v, vr, e, Rep.map d m m' v k kc h1, RepT.map r m m' vr k kc h2⟩
end
mutual
/-- what cannot be changed may be held by anyone -/
theorem Rep.imm : ∀ (d : D) (m m' : Md) (v : V), imm d = true → Rep C w H d m i v → Rep C w H d m' i' v
  | .non, _, _, _, _, h => h
  | .bl _, _, _, _, _, h => h
  | .int _, _, _, _, _, h => h
  | .str _, _, _, _, _, h => h
  | .tup xs, m, m', v, k, ⟨a, vs, e, hw, hH, hr⟩ => ⟨a, vs, e, hw, hH, RepL.imm xs m.child m'.child vs (by simpa [VS.imm] using k) hr⟩
  | .lst _, _, _, _, k, _ => by simp [VS.imm] at k
  | .ins _ _, _, _, _, k, _ => by simp [VS.imm] at k
  | .dK _, _, _, _, k, _ => by simp [VS.imm] at k
  | .dT _, _, _, _, k, _ => by simp [VS.imm] at k
theorem RepL.imm : ∀ (ds : List D) (m m' : Md) (vs : List V), immL ds = true → RepL C w H ds m i vs → RepL C w H ds m' i' vs
  | [], _, _, _, _, h => h
  | d :: r, m, m', vs, k, ⟨v, vr, e, h1, h2⟩ => by
    have k' : VS.imm d = true ∧ immL r = true := by simpa [immL] using k
    exact ⟨v, vr, e, Rep.imm d m m' v k'.1 h1, RepL.imm r m m' vr k'.2 h2⟩
end
end

/-! ### the frame's slots, and how states evolve -/
abbrev En := List (Option (D × Md))
/-- what is not this frame's to change: foreign, shared, under way below n -/
def Held (n : Nat) (o : Own) : Prop := o = .no ∨ o = .fz ∨ ∃ j, j < n ∧ (o = .rt (.t j) ∨ o = .sb (.t j))
structure Evo (n : Nat) (w : Wh) (H : Hp) (w' : Wh) (H' : Hp) : Prop where
  kH : ∀ a o, H a = some o → Held n (w a) → H' a = some o
  kW : ∀ a o, H a = some o → Held n (w a) → w' a = w a ∨ (w a = .no ∧ w' a = .fz ∧ ∃ vs, o = .tup vs)
  al : ∀ a, H' a = none → H a = none
theorem Evo.refl {n : Nat} {w : Wh} {H : Hp} : Evo n w H w H := ⟨fun _ _ h _ => h, fun _ _ _ _ => .inl rfl, fun _ h => h⟩
/-- an owner that is somebody's stays -/
theorem Evo.kW' {n : Nat} {w : Wh} {H : Hp} {w' : Wh} {H' : Hp} (e : Evo n w H w' H') {a : Addr} {o : HO} (h : H a = some o) (hd : Held n (w a)) (ho : w a ≠ .no) : w' a = w a :=
  (e.kW a o h hd).elim id fun z => absurd z.1 ho
theorem Evo.held {n : Nat} {w : Wh} {H : Hp} {w' : Wh} {H' : Hp} (e : Evo n w H w' H') {a : Addr} {o : HO} (h : H a = some o) (hd : Held n (w a)) : Held n (w' a) :=
  (e.kW a o h hd).elim (fun z => z ▸ hd) fun z => .inr (.inl z.2.1)
theorem own_no {m : Md} {i : Id} {o : Own} (h : o = m.own i) : o ≠ .no := by subst h; cases m <;> simp [Md.own]
theorem Evo.trans {n : Nat} {w w1 w2 : Wh} {H H1 H2 : Hp} (a : Evo n w H w1 H1) (b : Evo n w1 H1 w2 H2) : Evo n w H w2 H2 where
  kH := fun x o h hd => b.kH x o (a.kH x o h hd) (a.held h hd)
  kW := fun x o h hd => by
    rcases b.kW x o (a.kH x o h hd) (a.held h hd) with p | ⟨p1, p2, p3⟩
    · rcases a.kW x o h hd with q | ⟨q1, q2, q3⟩
      · exact .inl (p.trans q)
      · exact .inr ⟨q1, p.trans q2, q3⟩
    · rcases a.kW x o h hd with q | ⟨q1, q2, q3⟩
      · exact .inr ⟨q ▸ p1, p2, p3⟩
      · rw [q2] at p1; cases p1
  al := fun x h => a.al x (b.al x h)
theorem Held.mono {n n' : Nat} (h : n ≤ n') {o : Own} : Held n o → Held n' o
  | .inl h1 => .inl h1
  | .inr (.inl h1) => .inr (.inl h1)
  | .inr (.inr ⟨j, hj, h1⟩) => .inr (.inr ⟨j, Nat.lt_of_lt_of_le hj h, h1⟩)
theorem Evo.weak {n n' : Nat} (h : n ≤ n') {w w' : Wh} {H H' : Hp} (a : Evo n' w H w' H') : Evo n w H w' H' :=
  ⟨fun x o e hd => a.kH x o e (hd.mono h), fun x o e hd => a.kW x o e (hd.mono h), a.al⟩
structure Ok (C : Nat → Addr) (w : Wh) (H : Hp) (ρ : En) (σ : L2.St) : Prop where
  len : ρ.length = σ.length
  rep : ∀ i d m, ρ[i]? = some (some (d, m)) → ∃ v, σ[i]? = some (some v) ∧ Rep C w H d m (.s i) v
  nn : ∀ a, H a = none → w a = .no
  tp : ∀ a vs, H a = some (.tup vs) → w a = .no ∨ w a = .fz
/-- only the objects named by p change their owners, none of the tree's -/
theorem Keeps.id {w w' : Wh} {H H' : Hp} {m : Md} {i : Id} (h0 : ∀ a o, H a = some o → w a = m.own i → w' a = w a ∧ H' a = some o) (hf : ∀ a o, H a = some o → w a = .fz → w' a = .fz ∧ H' a = some o) : Keeps w w' H H' m m i i :=
  ⟨fun h => h, fun a o e hw => ⟨(h0 a o e hw).1.trans hw, (h0 a o e hw).2⟩, fun a vs e h => hf a _ e h⟩
/-- a tree under way below n, or shared, stays -/
theorem Rep.evo {C : Nat → Addr} {n j : Nat} {w w' : Wh} {H H' : Hp} {d : D} {m : Md} {v : V} (h : j < n) (e : Evo n w H w' H') (r : Rep C w H d m (.t j) v) : Rep C w' H' d m (.t j) v := by
  have key : ∀ m : Md, Keeps w w' H H' m m (.t j) (.t j) := fun m => by
    have hd : ∀ a, w a = m.own (.t j) → Held n (w a) := fun a q => by
      rw [q]
      cases m
      · exact .inr (.inl rfl)
      · exact .inr (.inr ⟨j, h, .inl rfl⟩)
      · exact .inr (.inr ⟨j, h, .inl rfl⟩)
      · exact .inr (.inr ⟨j, h, .inr rfl⟩)
    exact .id (fun a o q q2 => ⟨e.kW' q (hd a q2) (own_no q2), e.kH a o q (hd a q2)⟩) fun a o q q2 => ⟨(e.kW' q (.inr (.inl q2)) (by rw [q2]; intro z; cases z)).trans q2, e.kH a o q (.inr (.inl q2))⟩
  exact Rep.map d m m v (key m) (key _) r
theorem own_fz (i : Id) : Md.own i .fz = .fz := rfl
theorem Rep.fzEvo {C : Nat → Addr} {n : Nat} {i i' : Id} {w w' : Wh} {H H' : Hp} {d : D} {v : V} (e : Evo n w H w' H') (r : Rep C w H d .fz i v) : Rep C w' H' d .fz i' v := by
  have key : Keeps w w' H H' .fz .fz i i' := ⟨fun h => h, fun a o q q2 => ⟨(e.kW' q (.inr (.inl q2)) (by rw [q2]; intro z; cases z)).trans q2, e.kH a o q (.inr (.inl q2))⟩, fun a o q q2 => ⟨(e.kW' q (.inr (.inl q2)) (by rw [q2]; intro z; cases z)).trans q2, e.kH a _ q (.inr (.inl q2))⟩⟩
  exact Rep.map d _ _ v key key r
theorem RepL.fzEvo {C : Nat → Addr} {n : Nat} {i i' : Id} {w w' : Wh} {H H' : Hp} {d : List D} {v : List V} (e : Evo n w H w' H') (r : RepL C w H d .fz i v) : RepL C w' H' d .fz i' v := by
  have key : Keeps w w' H H' .fz .fz i i' := ⟨fun h => h, fun a o q q2 => ⟨(e.kW' q (.inr (.inl q2)) (by rw [q2]; intro z; cases z)).trans q2, e.kH a o q (.inr (.inl q2))⟩, fun a o q q2 => ⟨(e.kW' q (.inr (.inl q2)) (by rw [q2]; intro z; cases z)).trans q2, e.kH a _ q (.inr (.inl q2))⟩⟩
  exact RepL.map d _ _ v key key r
theorem RepF.fzEvo {C : Nat → Addr} {n : Nat} {i i' : Id} {w w' : Wh} {H H' : Hp} {d : List (Str × D)} {v : List (Str × V)} (e : Evo n w H w' H') (r : RepF C w H d .fz i v) : RepF C w' H' d .fz i' v := by
  have key : Keeps w w' H H' .fz .fz i i' := ⟨fun h => h, fun a o q q2 => ⟨(e.kW' q (.inr (.inl q2)) (by rw [q2]; intro z; cases z)).trans q2, e.kH a o q (.inr (.inl q2))⟩, fun a o q q2 => ⟨(e.kW' q (.inr (.inl q2)) (by rw [q2]; intro z; cases z)).trans q2, e.kH a _ q (.inr (.inl q2))⟩⟩
  exact RepF.map d _ _ v key key r
theorem Rep.fzId {C : Nat → Addr} {i i' : Id} {w : Wh} {H : Hp} {d : D} {v : V} (r : Rep C w H d .fz i v) : Rep C w H d .fz i' v := Rep.fzEvo (n := 0) .refl r
theorem RepL.fzId {C : Nat → Addr} {i i' : Id} {w : Wh} {H : Hp} {d : List D} {v : List V} (r : RepL C w H d .fz i v) : RepL C w H d .fz i' v := RepL.fzEvo (n := 0) .refl r

/-! ### changing owners -/
/-- what the owners in p hold becomes shared -/
def frz (p : Id → Bool) (w : Wh) : Wh := fun a => match w a with
  | .rt i => if p i then .fz else .rt i
  | .sb i => if p i then .fz else .sb i
  | o => o
/-- .. below the root alone -/
def frzS (p : Id → Bool) (w : Wh) : Wh := fun a => match w a with
  | .sb i => if p i then .fz else .sb i
  | o => o
/-- what j holds is i's -/
def mov (j i : Id) (w : Wh) : Wh := fun a => match w a with
  | .rt k => if k = j then .rt i else .rt k
  | .sb k => if k = j then .sb i else .sb k
  | o => o
/-- what the owners in p hold hangs below i's root -/
def sub (p : Id → Bool) (i : Id) (w : Wh) : Wh := fun a => match w a with
  | .rt k => if p k then .sb i else .rt k
  | .sb k => if p k then .sb i else .sb k
  | o => o
def own1 (w : Wh) (p : Addr) (o : Own) : Wh := fun a => if a = p then o else w a
def isS (i : Nat) : Id → Bool := fun k => decide (k = .s i)
/-- under way from n on -/
def geT (n : Nat) : Id → Bool
  | .t j => decide (n ≤ j)
  | .s _ => false

section
variable {C : Nat → Addr} {w : Wh} {H : Hp} {p : Id → Bool} {i j k : Id} {d : D} {ds : List D} {m : Md} {v : V} {vs : List V} {a : Addr} {n : Nat}
theorem frz_no : w a = .no → frz p w a = .no := fun h => by unfold frz; rw [h]
theorem frz_fz : w a = .fz → frz p w a = .fz := fun h => by unfold frz; rw [h]
theorem frz_in (hp : p i = true) : w a = Md.own i m → frz p w a = .fz := fun h => by
  unfold frz; rw [h]; cases m <;> simp [Md.own, hp]
theorem frz_out (hp : p i = false) : w a = Md.own i m → frz p w a = w a := fun h => by
  unfold frz; rw [h]; cases m <;> simp [Md.own, hp]
theorem Rep.frzIn (hp : p i = true) (r : Rep C w H d m i v) : Rep C (frz p w) H d .fz j v := by
  have key : ∀ m : Md, Keeps w (frz p w) H H m .fz i j := fun m => ⟨fun _ => rfl, fun a o e q => ⟨frz_in hp q, e⟩, fun a o e q => ⟨frz_fz q, e⟩⟩
  exact Rep.map d m .fz v (key m) (key _) r
theorem RepL.frzIn (hp : p i = true) (r : RepL C w H ds m i vs) : RepL C (frz p w) H ds .fz j vs := by
  have key : ∀ m : Md, Keeps w (frz p w) H H m .fz i j := fun m => ⟨fun _ => rfl, fun a o e q => ⟨frz_in hp q, e⟩, fun a o e q => ⟨frz_fz q, e⟩⟩
  exact RepL.map ds m .fz vs (key m) (key _) r
theorem Rep.frzOut (hp : p i = false) (r : Rep C w H d m i v) : Rep C (frz p w) H d m i v := by
  have key : ∀ m : Md, Keeps w (frz p w) H H m m i i := fun m => .id (fun a o e q => ⟨frz_out hp q, e⟩) fun a o e q => ⟨frz_fz q, e⟩
  exact Rep.map d m m v (key m) (key _) r
theorem Rep.frzFz (r : Rep C w H d .fz i v) : Rep C (frz p w) H d .fz j v := by
  have key : Keeps w (frz p w) H H .fz .fz i j := ⟨fun _ => rfl, fun a o e q => ⟨frz_fz q, e⟩, fun a o e q => ⟨frz_fz q, e⟩⟩
  exact Rep.map d _ _ v key key r
/-- whatever it was, what p frees is shared, all else as it was -/
theorem Evo.frz (hp : ∀ j, j < n → p (.t j) = false) : Evo n w H (frz p w) H where
  kH := fun _ _ h _ => h
  kW := fun a o _ hd => by
    rcases hd with h | h | ⟨j, hj, h | h⟩
    · exact .inl (by rw [h]; exact frz_no h)
    · exact .inl (by rw [h]; exact frz_fz h)
    · exact .inl (frz_out (m := .rt) (hp j hj) h)
    · exact .inl (frz_out (m := .sb) (hp j hj) h)
  al := fun _ h => h
theorem frzS_no : w a = .no → frzS p w a = .no := fun h => by unfold frzS; rw [h]
theorem frzS_fz : w a = .fz → frzS p w a = .fz := fun h => by unfold frzS; rw [h]
theorem frzS_rt : w a = .rt i → frzS p w a = .rt i := fun h => by unfold frzS; rw [h]
theorem frzS_in (hp : p i = true) : w a = .sb i → frzS p w a = .fz := fun h => by unfold frzS; rw [h]; simp [hp]
theorem frzS_out (hp : p i = false) : w a = Md.own i m → frzS p w a = w a := fun h => by
  unfold frzS; rw [h]; cases m <;> simp [Md.own, hp]
/-- the mode below whose root all is shared -/
def Md.flat : Md → Md
  | .fz => .fz
  | .rt => .rt
  | .dp => .rt
  | .sb => .fz
theorem Rep.frzSIn (hp : p i = true) (r : Rep C w H d m i v) : Rep C (frzS p w) H d m.flat i v := by
  have key : ∀ m : Md, Keeps w (frzS p w) H H m m.flat i i := fun m => ⟨fun h => by subst h; rfl, fun a o e q => ⟨by cases m; exact frzS_fz q; exact frzS_rt q; exact frzS_rt q; exact frzS_in hp q, e⟩, fun a o e q => ⟨frzS_fz q, e⟩⟩
  have e : ∀ m : Md, m.child.flat = m.flat.child := fun m => by cases m <;> rfl
  exact Rep.map d m m.flat v (key m) (by rw [← e]; exact key _) r
theorem Rep.frzSOut (hp : p i = false) (r : Rep C w H d m i v) : Rep C (frzS p w) H d m i v := by
  have key : ∀ m : Md, Keeps w (frzS p w) H H m m i i := fun m => .id (fun a o e q => ⟨frzS_out hp q, e⟩) fun a o e q => ⟨frzS_fz q, e⟩
  exact Rep.map d m m v (key m) (key _) r
theorem Evo.frzS (hp : ∀ j, j < n → p (.t j) = false) : Evo n w H (frzS p w) H where
  kH := fun _ _ h _ => h
  kW := fun a o _ hd => by
    rcases hd with h | h | ⟨j, hj, h | h⟩
    · exact .inl (by rw [h]; exact frzS_no h)
    · exact .inl (by rw [h]; exact frzS_fz h)
    · exact .inl (frzS_out (m := .rt) (hp j hj) h)
    · exact .inl (frzS_out (m := .sb) (hp j hj) h)
  al := fun _ h => h
theorem mov_no : w a = .no → mov j i w a = .no := fun h => by unfold mov; rw [h]
theorem mov_fz : w a = .fz → mov j i w a = .fz := fun h => by unfold mov; rw [h]
theorem mov_at : w a = Md.own j m → mov j i w a = Md.own i m := fun h => by unfold mov; rw [h]; cases m <;> simp [Md.own]
theorem mov_out (hk : k ≠ j) : w a = Md.own k m → mov j i w a = w a := fun h => by unfold mov; rw [h]; cases m <;> simp [Md.own, hk]
theorem Rep.mov (r : Rep C w H d m j v) : Rep C (mov j i w) H d m i v := by
  have key : ∀ m : Md, Keeps w (VS.mov j i w) H H m m j i := fun m => ⟨fun h => h, fun a o e q => ⟨mov_at q, e⟩, fun a o e q => ⟨mov_fz q, e⟩⟩
  exact Rep.map d m m v (key m) (key _) r
theorem Rep.movOut (hk : k ≠ j) (r : Rep C w H d m k v) : Rep C (VS.mov j i w) H d m k v := by
  have key : ∀ m : Md, Keeps w (VS.mov j i w) H H m m k k := fun m => .id (fun a o e q => ⟨mov_out hk q, e⟩) fun a o e q => ⟨mov_fz q, e⟩
  exact Rep.map d m m v (key m) (key _) r
theorem Evo.mov (hj : ∀ l, j = .t l → n ≤ l) : Evo n w H (mov j i w) H where
  kH := fun _ _ h _ => h
  kW := fun a o _ hd => by
    rcases hd with h | h | ⟨l, hl, h | h⟩
    · exact .inl (by rw [h]; exact mov_no h)
    · exact .inl (by rw [h]; exact mov_fz h)
    · exact .inl (mov_out (m := .rt) (fun e => absurd (hj l e.symm) (Nat.not_le.mpr hl)) h)
    · exact .inl (mov_out (m := .sb) (fun e => absurd (hj l e.symm) (Nat.not_le.mpr hl)) h)
  al := fun _ h => h
theorem sub_no : w a = .no → sub p i w a = .no := fun h => by unfold sub; rw [h]
theorem sub_fz : w a = .fz → sub p i w a = .fz := fun h => by unfold sub; rw [h]
theorem sub_in (hp : p k = true) (hm : m ≠ .fz) : w a = Md.own k m → sub p i w a = .sb i := fun h => by unfold sub; rw [h]; cases m <;> simp_all [Md.own]
theorem sub_out (hp : p k = false) : w a = Md.own k m → sub p i w a = w a := fun h => by unfold sub; rw [h]; cases m <;> simp [Md.own, hp]
theorem Rep.subIn (hp : p k = true) (r : Rep C w H d .dp k v) : Rep C (VS.sub p i w) H d .sb i v := by
  have key : ∀ m : Md, m ≠ .fz → Keeps w (VS.sub p i w) H H m .sb k i := fun m hm => ⟨fun h => absurd h hm, fun a o e q => ⟨sub_in hp hm q, e⟩, fun a o e q => ⟨sub_fz q, e⟩⟩
  exact Rep.map d .dp .sb v (key _ (by decide)) (key _ (by decide)) r
theorem Rep.subOut (hp : p k = false) (r : Rep C w H d m k v) : Rep C (VS.sub p i w) H d m k v := by
  have key : ∀ m : Md, Keeps w (VS.sub p i w) H H m m k k := fun m => .id (fun a o e q => ⟨sub_out hp q, e⟩) fun a o e q => ⟨sub_fz q, e⟩
  exact Rep.map d m m v (key m) (key _) r
theorem Rep.subFz (r : Rep C w H d .fz k v) : Rep C (VS.sub p i w) H d .fz j v := by
  have key : Keeps w (VS.sub p i w) H H .fz .fz k j := ⟨fun h => h, fun a o e q => ⟨sub_fz q, e⟩, fun a o e q => ⟨sub_fz q, e⟩⟩
  exact Rep.map d _ _ v key key r
theorem Evo.sub (hp : ∀ j, j < n → p (.t j) = false) : Evo n w H (sub p i w) H where
  kH := fun _ _ h _ => h
  kW := fun a o _ hd => by
    rcases hd with h | h | ⟨j, hj, h | h⟩
    · exact .inl (by rw [h]; exact sub_no h)
    · exact .inl (by rw [h]; exact sub_fz h)
    · exact .inl (sub_out (m := .rt) (hp j hj) h)
    · exact .inl (sub_out (m := .sb) (hp j hj) h)
  al := fun _ h => h

/-! ### a new object, an object changed -/
variable {q : Addr} {o : HO} {ow : Own}
theorem own1_same : own1 w q ow q = ow := by unfold own1; rw [if_pos rfl]
theorem own1_ne (h : a ≠ q) : own1 w q ow a = w a := by unfold own1; rw [if_neg h]
/-- all trees stay behind a new object -/
theorem Rep.new (hn : H q = none) (r : Rep C w H d m i v) : Rep C (own1 w q ow) (upd H q o) d m i v := by
  have key : ∀ m : Md, Keeps w (own1 w q ow) H (upd H q o) m m i i := fun m =>
    .id (fun a o' e _ => ⟨own1_ne (ne_of_none e hn), by rw [upd_ne (ne_of_none e hn)]; exact e⟩) fun a o' e h => ⟨by rw [own1_ne (ne_of_none e hn)]; exact h, by rw [upd_ne (ne_of_none e hn)]; exact e⟩
  exact Rep.map d m m v (key m) (key _) r
theorem RepL.new (hn : H q = none) (r : RepL C w H ds m i vs) : RepL C (own1 w q ow) (upd H q o) ds m i vs := by
  have key : ∀ m : Md, Keeps w (own1 w q ow) H (upd H q o) m m i i := fun m =>
    .id (fun a o' e _ => ⟨own1_ne (ne_of_none e hn), by rw [upd_ne (ne_of_none e hn)]; exact e⟩) fun a o' e h => ⟨by rw [own1_ne (ne_of_none e hn)]; exact h, by rw [upd_ne (ne_of_none e hn)]; exact e⟩
  exact RepL.map ds m m vs (key m) (key _) r
theorem RepF.new {ds : List (Str × D)} {vs : List (Str × V)} (hn : H q = none) (r : RepF C w H ds m i vs) : RepF C (own1 w q ow) (upd H q o) ds m i vs := by
  have key : ∀ m : Md, Keeps w (own1 w q ow) H (upd H q o) m m i i := fun m =>
    .id (fun a o' e _ => ⟨own1_ne (ne_of_none e hn), by rw [upd_ne (ne_of_none e hn)]; exact e⟩) fun a o' e h => ⟨by rw [own1_ne (ne_of_none e hn)]; exact h, by rw [upd_ne (ne_of_none e hn)]; exact e⟩
  exact RepF.map ds m m vs (key m) (key _) r
theorem Evo.new (hn : H q = none) : Evo n w H (own1 w q ow) (upd H q o) where
  kH := fun a o e _ => by rw [upd_ne (ne_of_none e hn)]; exact e
  kW := fun a o e _ => .inl (own1_ne (ne_of_none e hn))
  al := fun a h => by
    by_cases e : a = q
    · rw [e]; exact hn
    · rw [upd_ne e] at h; exact h
theorem same_new (hn : H q = none) : Same H (upd H q o) := fun b u e => by rw [upd_ne (ne_of_none e hn)]; exact e
theorem Evo.put {k : Nat} (hw : w q = .rt (.s k) ∨ ∃ l, n ≤ l ∧ w q = .rt (.t l)) (_hq : H q ≠ none) : Evo n w H w (upd H q o) where
  kH := fun a o e hd => by
    have ne : a ≠ q := fun z => by
      rw [z] at hd
      rcases hw with h | ⟨l, hl, h⟩
      · rw [h] at hd; rcases hd with h | h | ⟨j, _, h | h⟩ <;> cases h
      · rw [h] at hd
        rcases hd with h | h | ⟨j, hj, h | h⟩
        · cases h
        · cases h
        · cases h; exact absurd hl (Nat.not_le.mpr hj)
        · cases h
    rw [upd_ne ne]; exact e
  kW := fun a o e hd => .inl rfl
  al := fun a h => by
    by_cases e : a = q
    · rw [e, upd_same] at h; cases h
    · rw [upd_ne e] at h; exact h
/-- a tree of another owner, or one below which the root changes -/
theorem Rep.put (hw : ∀ m : Md, w q = Md.own i m → False) (r : Rep C w H d m i v) : Rep C w (upd H q o) d m i v := by
  have hz : ∀ a, w a = .fz → a ≠ q := fun a h z => by subst z; exact hw .fz h
  have key : ∀ m : Md, Keeps w w H (upd H q o) m m i i := fun m =>
    .id (fun a o' e h => ⟨rfl, by rw [upd_ne (fun z => hw m (by rw [← z]; exact h))]; exact e⟩) fun a o' e h => ⟨h, by rw [upd_ne (hz a h)]; exact e⟩
  exact Rep.map d m m v (key m) (key _) r
/-- what hangs on a root stays where the root changes -/
theorem RepL.putKid (hw : w q = .rt i) (hm : m = .fz ∨ m = .sb) (r : RepL C w H ds m i vs) : RepL C w (upd H q o) ds m i vs := by
  have key : ∀ m : Md, m = .fz ∨ m = .sb → Keeps w w H (upd H q o) m m i i := fun m hm =>
    .id (fun a o' e h => ⟨rfl, by
      rw [upd_ne (fun z => by rw [z, hw] at h; rcases hm with e | e <;> subst e <;> cases h)]; exact e⟩) fun a o' e h => ⟨h, by rw [upd_ne (fun z => by rw [z, hw] at h; cases h)]; exact e⟩
  exact RepL.map ds m m vs (key m hm) (key _ (by rcases hm with e | e <;> subst e; exact .inl rfl; exact .inr rfl)) r
theorem RepF.putKid {ds : List (Str × D)} {vs : List (Str × V)} (hw : w q = .rt i) (hm : m = .fz ∨ m = .sb) (r : RepF C w H ds m i vs) : RepF C w (upd H q o) ds m i vs := by
  have key : ∀ m : Md, m = .fz ∨ m = .sb → Keeps w w H (upd H q o) m m i i := fun m hm =>
    .id (fun a o' e h => ⟨rfl, by
      rw [upd_ne (fun z => by rw [z, hw] at h; rcases hm with e | e <;> subst e <;> cases h)]; exact e⟩) fun a o' e h => ⟨h, by rw [upd_ne (fun z => by rw [z, hw] at h; cases h)]; exact e⟩
  exact RepF.map ds m m vs (key m hm) (key _ (by rcases hm with e | e <;> subst e; exact .inl rfl; exact .inr rfl)) r
end

/-! ### the frame's slots through these changes -/
section
variable {C : Nat → Addr} {w w' : Wh} {H H' : Hp} {ρ ρ' : En} {σ : L2.St} {p : Id → Bool} {d : D} {m : Md} {v : V} {n i : Nat}
/-- a change of owners that leaves every slot's tree -/
theorem Ok.map (k : Ok C w H ρ σ) (hl : ρ'.length = ρ.length) (hr : ∀ i d m, ρ'[i]? = some (some (d, m)) → ∃ v, σ[i]? = some (some v) ∧ Rep C w' H' d m (.s i) v) (hn : ∀ a, H' a = none → w' a = .no) (ht : ∀ a vs, H' a = some (.tup vs) → w' a = .no ∨ w' a = .fz) : Ok C w' H' ρ' σ :=
  ⟨hl.trans k.len, hr, hn, ht⟩
theorem Ok.frzT (k : Ok C w H ρ σ) (hp : ∀ i, p (.s i) = false) : Ok C (frz p w) H ρ σ :=
  ⟨k.len, fun i d m e => let ⟨v, h1, h2⟩ := k.rep i d m e; ⟨v, h1, h2.frzOut (hp i)⟩, fun a h => frz_no (k.nn a h), fun a vs h => (k.tp a vs h).imp frz_no frz_fz⟩
theorem Ok.subT {j : Id} (k : Ok C w H ρ σ) (hp : ∀ i, p (.s i) = false) : Ok C (sub p j w) H ρ σ :=
  ⟨k.len, fun i d m e => let ⟨v, h1, h2⟩ := k.rep i d m e; ⟨v, h1, h2.subOut (hp i)⟩, fun a h => sub_no (k.nn a h), fun a vs h => (k.tp a vs h).imp sub_no sub_fz⟩
theorem Ok.new {q : Addr} {o : HO} {ow : Own} (k : Ok C w H ρ σ) (hn : H q = none) (ho : ∀ vs, o = .tup vs → ow = .no ∨ ow = .fz := by first | (intro vs z; cases z; done) | exact fun _ _ => .inr rfl) : Ok C (own1 w q ow) (upd H q o) ρ σ :=
  ⟨k.len, fun i d m e => let ⟨v, h1, h2⟩ := k.rep i d m e; ⟨v, h1, h2.new hn⟩, fun a h => by
    by_cases e : a = q
    · rw [e, upd_same] at h; cases h
    · rw [upd_ne e] at h; rw [own1_ne e]; exact k.nn a h, fun a vs h => by
    by_cases e : a = q
    · rw [e, upd_same] at h; rw [e, own1_same]; exact ho vs (Option.some.inj h)
    · rw [upd_ne e] at h; rw [own1_ne e]; exact k.tp a vs h⟩
/-- a name is read as a value that stays: its tree is shared from now on -/
theorem Ok.share (k : Ok C w H ρ σ) (h : ρ[i]? = some (some (d, m))) : Ok C (frz (isS i) w) H (ρ.set i (some (d, .fz))) σ := by
  have hi : i < ρ.length := (List.getElem?_eq_some_iff.mp h).1
  refine ⟨by rw [List.length_set]; exact k.len, fun j d' m' e => ?_, fun a h => frz_no (k.nn a h), fun a vs h => (k.tp a vs h).imp frz_no frz_fz⟩
  by_cases hj : i = j
  · subst hj
    rw [List.getElem?_set_self hi] at e
    cases e
    obtain ⟨v, h1, h2⟩ := k.rep i d m h
    exact ⟨v, h1, h2.frzIn (by simp [isS])⟩
  · rw [List.getElem?_set_ne hj] at e
    obtain ⟨v, h1, h2⟩ := k.rep j d' m' e
    exact ⟨v, h1, h2.frzOut (by simp [isS, Ne.symm hj])⟩
/-- .. its root remains its own -/
theorem Ok.flat (k : Ok C w H ρ σ) (h : ρ[i]? = some (some (d, m))) : Ok C (frzS (isS i) w) H (ρ.set i (some (d, m.flat))) σ := by
  have hi : i < ρ.length := (List.getElem?_eq_some_iff.mp h).1
  refine ⟨by rw [List.length_set]; exact k.len, fun j d' m' e => ?_, fun a h => frzS_no (k.nn a h), fun a vs h => (k.tp a vs h).imp frzS_no frzS_fz⟩
  by_cases hj : i = j
  · subst hj
    rw [List.getElem?_set_self hi] at e
    cases e
    obtain ⟨v, h1, h2⟩ := k.rep i d m h
    exact ⟨v, h1, h2.frzSIn (by simp [isS])⟩
  · rw [List.getElem?_set_ne hj] at e
    obtain ⟨v, h1, h2⟩ := k.rep j d' m' e
    exact ⟨v, h1, h2.frzSOut (by simp [isS, Ne.symm hj])⟩
/-- a slot takes what is under way -/
theorem Ok.set (k : Ok C w H ρ σ) (r : Rep C w H d m (.t n) v) : Ok C (mov (.t n) (.s i) w) H (ρ.set i (some (d, m))) (σ.set i (some v)) := by
  refine ⟨by rw [List.length_set, List.length_set]; exact k.len, fun j d' m' e => ?_, fun a h => mov_no (k.nn a h), fun a vs h => (k.tp a vs h).imp mov_no mov_fz⟩
  by_cases hj : i = j
  · subst hj
    by_cases hi : i < ρ.length
    · rw [List.getElem?_set_self hi] at e
      cases e
      exact ⟨v, by rw [List.getElem?_set_self (by rw [← k.len]; exact hi)], r.mov⟩
    · rw [List.getElem?_eq_none (by rw [List.length_set]; exact Nat.le_of_not_lt hi)] at e
      cases e
  · rw [List.getElem?_set_ne hj] at e
    obtain ⟨v', h1, h2⟩ := k.rep j d' m' e
    exact ⟨v', by rw [List.getElem?_set_ne hj]; exact h1, h2.movOut (by intro z; cases z)⟩
/-- a slot is forgotten -/
theorem Ok.drop (k : Ok C w H ρ σ) : Ok C w H (ρ.set i none) σ := by
  refine ⟨by rw [List.length_set]; exact k.len, fun j d' m' e => ?_, k.nn, k.tp⟩
  by_cases hj : i = j
  · subst hj
    by_cases hi : i < ρ.length
    · rw [List.getElem?_set_self hi] at e; cases e
    · rw [List.getElem?_eq_none (by rw [List.length_set]; exact Nat.le_of_not_lt hi)] at e; cases e
  · rw [List.getElem?_set_ne hj] at e
    exact k.rep j d' m' e
end
end VS

set_option Elab.async false
set_option linter.all false
set_option maxRecDepth 100000
/-! VB: the small syntax and its evaluator, over trees. -/
namespace VS
open PySem PySem.Spec PyProof.Rows L2

inductive Bop where
  | add | sub | mul | fdiv | mod | pow
  deriving DecidableEq
inductive Cop where
  | eq | ne | lt | le | gt | ge | inn | nin
  deriving DecidableEq
inductive Ty where
  | int | bool | str | list | tuple | dict | cls (c : Nat)
  deriving DecidableEq
/-- built-in functions -/
inductive Bi where
  | len | abs | int | sum | max1 | min1 | max2 | min2 | list | sorted | all | any
  deriving DecidableEq
inductive Ex where
  | int (i : Int) | str (x : Str) | bl (b : Bool) | non
  | var (i : Nat) | mv (i : Nat)
  | bin (op : Bop) (a b : Ex)
  | neg (a : Ex)
  | cmp (op : Cop) (a b : Ex)
  | chain (op op' : Cop) (a b c : Ex)
  | isN (neg : Bool) (a : Ex)
  | and (es : List Ex) | or (es : List Ex) | not (a : Ex)
  | ife (t a b : Ex)
  | lst (es : List Ex) | tup (es : List Ex)
  | dK0 | dT0
  | ix (a b : Ex)
  | slc (a : Ex) (lo hi : List Ex)
  | fld (a : Ex) (f : Str)
  | call (f : Nat) (es : List Ex)
  | mk (c : Nat) (es : List Ex)
  | meth (i : Nat) (m : Str) (es : List Ex)
  | bi (b : Bi) (es : List Ex)
  | isI (a : Ex) (t : Ty)
  | pop (i : Nat) | popAt (i : Nat) (e : Ex)
  | compR (own : List Nat) (tg : Nat) (args : List Ex) (ifs : List Ex) (elt : Ex)
  | compL (own : List Nat) (tup : Bool) (tg : List Nat) (e : Ex) (ifs : List Ex) (elt : Ex)
  | sh (i : Nat)
  | hole
/-- what a clause gives back: written values, the error's fields, tuples of them -/
inductive Hx where
  | lit (c : Ex)
  | fld (f : Str)
  | tup (l : List Hx)
inductive Sm where
  | set (i : Nat) (e : Ex)
  | setT (is : List Nat) (e : Ex)
  | aug (i : Nat) (op : Bop) (e : Ex)
  | setIx (i : Nat) (k : Ex) (e : Ex)
  | augIx (i : Nat) (k : Ex) (op : Bop) (e : Ex)
  | setK (i : Nat) (k : Ex) (e : Ex)
  | setF (i : Nat) (f : Str) (e : Ex)
  | app (i : Nat) (e : Ex)
  | insr (i : Nat) (a b : Ex)
  | expr (e : Ex)
  | ret (e : Ex) | retN
  | ife (t : Ex) (a b : List Sm)
  | forR (i : Nat) (args : List Ex) (body : List Sm)
  | forL (tup : Bool) (is : List Nat) (e : Ex) (body : List Sm)
  | raise (c : Nat) (e : Ex)
  | tri (body : List Sm) (hs : List (Nat × Option Nat × Hx))
  | whl (t : Ex) (body : List Sm)
  | brk | cnt | pass
  | hole

/-! ### plain data -/
def prim : D → Bool
  | .non => true | .bl _ => true | .int _ => true | .str _ => true
  | _ => false
def immF : List (Str × D) → Bool
  | [] => true
  | (_, d) :: r => imm d && immF r
def immK {κ : Type} : List (κ × D) → Bool
  | [] => true
  | (_, d) :: r => imm d && immK r
/-- what hangs on the root cannot be changed -/
def kids : D → Bool
  | .lst xs => immL xs
  | .tup xs => immL xs
  | .ins _ fs => immF fs
  | .dK kvs => immK kvs
  | .dT kvs => immK kvs
  | _ => true
mutual
def toP : D → PyData
  | .non => .none | .bl b => .bool b | .int i => .int i | .str x => .str x
  | .lst xs => .list (toPs xs)
  | .tup xs => .tuple (toPs xs)
  | .ins _ _ => .dict [] | .dK _ => .dict [] | .dT _ => .dict []
def toPs : List D → List PyData
  | [] => []
  | d :: r => toP d :: toPs r
end
/-- may be asked for == -/
def shp (d : D) : Bool := SeqAt.shaped (toP d)
def eqD (d e : D) : Bool := PyData.eqv (toP d) (toP e)
def small (i : Int) : Bool := decide (-(2 ^ 64) < i) && decide (i < 2 ^ 64)
def flatD : D → Bool
  | .non => true | .bl _ => true | .int _ => true | .str _ => true
  | _ => false
/-- the mode of what is taken out of a container -/
def itemM (d : D) : D × Md := (d, if imm d then .dp else .fz)
/-- a new container's mode, its items shared where they can be changed -/
def lstM (xs : List D) : D × Md := (.lst xs, if immL xs then .dp else .rt)

def intsD : List D → Option (List Int)
  | [] => some []
  | .int i :: r => (intsD r).map (i :: ·)
  | _ :: _ => none
def blsD : List D → Option (List Bool)
  | [] => some []
  | .bl b :: r => (blsD r).map (b :: ·)
  | _ :: _ => none
def prsD : List D → Option (List (Int × Int))
  | [] => some []
  | .tup [.int i, .int j] :: r => (prsD r).map ((i, j) :: ·)
  | _ :: _ => none

def strsD : List D → Option (List Str)
  | [] => some []
  | .str i :: r => (strsD r).map (i :: ·)
  | _ :: _ => none
/-- texts by their code points -/
def leS (a b : Str) : Bool := !ltCps b.cps.toList a.cps.toList
def sortS (l : List Str) : List Str := l.mergeSort leS

def addD : D → D → Option (D × Md)
  | .int i, .int j => some (.int (i + j), .dp)
  | .lst xs, .lst ys => if decide (xs.length + ys.length ≤ sizeLine) then some (lstM (xs ++ ys)) else none
  | .str x, .str y => if decide (x.length + y.length ≤ sizeLine) then some (.str (x ++ y), .dp) else none
  | _, _ => none
def mulD : D → D → Option (D × Md)
  | .int i, .int j => if small i || small j then some (.int (i * j), .dp) else none
  | .lst xs, .int k => if decide (-(2 ^ 63) ≤ k) && decide (k < 2 ^ 63) && decide (xs.length * k.toNat ≤ sizeLine) then some (lstM (List.replicate k.toNat xs).flatten) else none
  | _, _ => none
def subD : D → D → Option (D × Md)
  | .int i, .int j => some (.int (i - j), .dp)
  | _, _ => none
def fdivD : D → D → Option (D × Md)
  | .int i, .int j => if decide (0 < j) && decide (j < 1073741824) then some (.int (i / j), .dp) else none
  | _, _ => none
def modD : D → D → Option (D × Md)
  | .int i, .int j => if decide (0 < j) then some (.int (i % j), .dp) else none
  | _, _ => none
def powD : D → D → Option (D × Md)
  | .int i, .int j => if decide (0 ≤ j) && decide (j ≤ 1000000) && decide (i.natAbs < 2 ^ 64) then some (.int (i ^ j.toNat), .dp) else none
  | _, _ => none
def binD : Bop → D → D → Option (D × Md)
  | .add, x, y => addD x y
  | .sub, x, y => subD x y
  | .mul, x, y => mulD x y
  | .fdiv, x, y => fdivD x y
  | .mod, x, y => modD x y
  | .pow, x, y => powD x y
def memD (d : D) (xs : List D) : Bool := xs.any fun z => eqD z d
def lkK {κ : Type} [DecidableEq κ] : List (κ × D) → κ → Option D
  | [], _ => none
  | (f, d) :: r, k => if f = k then some d else lkK r k
def keyOf : D → Option Key
  | .int i => some (.inl i)
  | .str x => some (.inr x)
  | _ => none
def keysOf : List D → Option (List Key)
  | [] => some []
  | d :: r => (keyOf d).bind fun k => (keysOf r).map (k :: ·)
def ltD (f : Int → Int → Bool) : D → D → Option Bool
  | .int i, .int j => some (f i j)
  | _, _ => none
def innD : D → D → Option Bool
  | d, .lst xs => if shp d && shp (.lst xs) then some (memD d xs) else none
  | d, .tup xs => if flatD d && xs.all flatD then some (memD d xs) else none
  | d, .dK kvs => (keyOf d).map fun k => (lkK kvs k).isSome
  | .tup ks, .dT kvs => (keysOf ks).map fun k => (lkK kvs k).isSome
  | _, _ => none
def cmpD : Cop → D → D → Option Bool
  | .eq, d, e => if shp d && shp e then some (eqD d e) else none
  | .ne, d, e => if shp d && shp e then some (!eqD d e) else none
  | .lt, d, e => ltD (fun i j => decide (i < j)) d e
  | .le, d, e => ltD (fun i j => decide (i ≤ j)) d e
  | .gt, d, e => ltD (fun i j => decide (j < i)) d e
  | .ge, d, e => ltD (fun i j => decide (j ≤ i)) d e
  | .inn, d, e => innD d e
  | .nin, d, e => (innD d e).map fun k => !k
def ixD : D → D → Option D
  | .lst xs, .int i => atI xs i
  | .tup xs, .int i => atI xs i
  | .str z, .int i => if decide (z.length ≤ sizeLine) then (atI z.cps.toList i).map fun c => .str ⟨#[c]⟩ else none
  | .dK kvs, k => (keyOf k).bind (lkK kvs)
  | .dT kvs, .tup ks => (keysOf ks).bind (lkK kvs)
  | _, _ => none
def cutD (xs : List D) (lo hi : Option Int) : List D := (xs.drop (HT.sIx xs.length 0 lo)).take (HT.sIx xs.length xs.length hi - HT.sIx xs.length 0 lo)
def slcD : D → Option Int → Option Int → Option (D × Md)
  | .lst xs, lo, hi => some (lstM (cutD xs lo hi))
  | _, _, _ => none
def maxI : List Int → Option Int
  | [] => none
  | i :: r => some (r.foldl (fun a b => if a < b then b else a) i)
def minI : List Int → Option Int
  | [] => none
  | i :: r => some (r.foldl (fun a b => if b < a then b else a) i)
def sortI (l : List Int) : List Int := l.mergeSort fun a b => decide (a ≤ b)
def leP (a b : Int × Int) : Bool := decide (a.1 < b.1) || (decide (a.1 = b.1) && decide (a.2 ≤ b.2))
def sortP (l : List (Int × Int)) : List (Int × Int) := l.mergeSort leP
def prD (p : Int × Int) : D := .tup [.int p.1, .int p.2]
def lenD : List D → Option (D × Md)
  | [.lst xs] => some (.int xs.length, .dp)
  | [.tup xs] => some (.int xs.length, .dp)
  | [.str x] => if decide (x.length ≤ sizeLine) then some (.int x.length, .dp) else none
  | [.dK kvs] => some (.int kvs.length, .dp)
  | _ => none
def oneI (f : Int → Int) : List D → Option (D × Md)
  | [.int i] => some (.int (f i), .dp)
  | _ => none
def twoI (f : Int → Int → Int) : List D → Option (D × Md)
  | [.int i, .int j] => some (.int (f i j), .dp)
  | _ => none
def lstI (f : List Int → Option Int) : List D → Option (D × Md)
  | [.lst xs] => (intsD xs).bind fun ns => (f ns).map fun i => (.int i, .dp)
  | _ => none
/-- of a list or a tuple -/
def lstTI (f : List Int → Option Int) : List D → Option (D × Md)
  | [.lst xs] => (intsD xs).bind fun ns => (f ns).map fun i => (.int i, .dp)
  | [.tup xs] => (intsD xs).bind fun ns => (f ns).map fun i => (.int i, .dp)
  | _ => none
/-- a key as a tree -/
def keyD : Key → D
  | .inl i => .int i
  | .inr x => .str x
def keysD (ks : List Key) : D := .tup (ks.map keyD)
def listD : List D → Option (D × Md)
  | [.lst xs] => some (lstM xs)
  | [.tup xs] => some (lstM xs)
  | [.dK kvs] => some (.lst (kvs.map fun p => keyD p.1), .dp)
  | [.dT kvs] => some (.lst (kvs.map fun p => keysD p.1), .dp)
  | _ => none
def sortedD : List D → Option (D × Md)
  | [.lst xs] => match intsD xs with
    | some ns => some (.lst ((sortI ns).map .int), .dp)
    | none => match prsD xs with
      | some ps => some (.lst ((sortP ps).map prD), .dp)
      | none => (strsD xs).bind fun ss => if ss.length < 64 then some (.lst ((sortS ss).map .str), .dp) else none
  | _ => none
def lstB (f : List Bool → Bool) : List D → Option (D × Md)
  | [.lst xs] => (blsD xs).map fun bs => (.bl (f bs), .dp)
  | _ => none
/-- what a built-in gives -/
def biD : Bi → List D → Option (D × Md)
  | .len, ds => lenD ds
  | .abs, ds => oneI (fun i => if i < 0 then -i else i) ds
  | .int, ds => oneI (fun i => i) ds
  | .sum, ds => lstI (fun ns => some ns.sum) ds
  | .max1, ds => lstTI maxI ds
  | .min1, ds => lstTI minI ds
  | .max2, ds => twoI (fun i j => if j > i then j else i) ds
  | .min2, ds => twoI (fun i j => if j < i then j else i) ds
  | .list, ds => listD ds
  | .sorted, ds => sortedD ds
  | .all, ds => lstB (fun bs => bs.all id) ds
  | .any, ds => lstB (fun bs => bs.any id) ds
/-- does it take its arguments' items -/
def Bi.cp : Bi → Bool
  | .list => true
  | .sorted => true
  | _ => false
/-- isinstance -/
def isD : D → Ty → Option Bool
  | .bl _, .int => some true
  | .bl _, .bool => some true
  | .int _, .int => some true
  | .str _, .str => some true
  | .lst _, .list => some true
  | .tup _, .tuple => some true
  | .dK _, .dict => some true
  | .dT _, .dict => some true
  | .ins _ _, _ => none
  | _, .cls _ => none
  | _, _ => some false
def rngD : List D → Option (Int × Nat)
  | [.int j] => if decide (-(2 ^ 62) ≤ j) && decide (j < 2 ^ 62) then some (0, j.toNat) else none
  | [.int i, .int j] => if decide (-(2 ^ 62) ≤ i) && decide (i < 2 ^ 62) && decide (-(2 ^ 62) ≤ j) && decide (j < 2 ^ 62) then some (i, (j - i).toNat) else none
  | _ => none

/-! ### outcomes -/
inductive R (α : Type) where
  | ok (a : α) (ρ : En)
  | exc (c : Nat) (fs : List (Str × D)) (ρ : En)
  | bad
def R.bind {α β : Type} (x : R α) (f : α → En → R β) : R β := match x with
  | .ok a ρ => f a ρ
  | .exc c fs ρ => .exc c fs ρ
  | .bad => .bad
def R.opt {α : Type} (x : Option α) (ρ : En) : R α := match x with
  | some a => .ok a ρ
  | none => .bad
/-- what a call of a def gives: its value, what its changed parameters are -/
inductive Rf where
  | ok (r : D × Md) (outs : List (Nat × (D × Md)))
  | exc (c : Nat) (fs : List (Str × D))
  | bad
/-- what the evaluator must know of the program -/
structure Pg where
  io : Nat → List Bool
  ini : Nat → Nat
  mth : Nat → Str → Option Nat
  sup : Nat → Nat → Bool
  fo : Nat → Str → Bool
  ef : Nat → Str
  ek : Nat → Bool
abbrev Ga := Nat → List (D × Md) → Rf

def slot (ρ : En) (i : Nat) : Option (D × Md) := (ρ[i]?).bind id
/-- a name's value, to stay: shared from now on -/
def rdVar (i : Nat) (ρ : En) : R (D × Md) := match slot ρ i with
  | some (d, m) => if imm d then .ok (d, .dp) ρ else .ok (d, .fz) (ρ.set i (some (d, .fz)))
  | none => .bad
/-- a name's value for the last time -/
def mvVar (i : Nat) (ρ : En) : R (D × Md) := match slot ρ i with
  | some (d, m) => if imm d then .ok (d, .dp) ρ else .ok (d, m) (ρ.set i none)
  | none => .bad
def isLst : Option (D × Md) → Option Unit
  | some (.lst _, _) => some ()
  | _ => none
def isVar : Ex → Bool
  | .var _ => true
  | _ => false
/-- a value that is looked at and let go -/
def look (a : Ex) (x : R (D × Md)) (ρ : En) : R D := match a with
  | .var i => (R.opt (slot ρ i) ρ).bind fun dm ρ => .ok dm.1 ρ
  | _ => x.bind fun dm ρ => .ok dm.1 ρ
/-- a value whose items stay elsewhere -/
def cpy (a : Ex) (x : R (D × Md)) (ρ : En) : R D := match a with
  | .var i => match slot ρ i with
    | some (d, .dp) => if kids d then .ok d ρ else .ok d (ρ.set i (some (d, .rt)))
    | some (d, .fz) => .ok d ρ
    | some (d, .rt) => .ok d ρ
    | _ => .bad
  | _ => x.bind fun dm ρ => .ok dm.1 ρ
inductive Arg where
  | sl (i : Nat) | vl (d : D) (m : Md)
def argD (ρ : En) : Arg → Bool → Option (D × Md)
  | .sl i, io => (slot ρ i).bind fun dm => if io then (if dm.2 = .rt ∨ dm.2 = .dp then some dm else none) else some (dm.1, if imm dm.1 then .dp else .fz)
  | .vl d m, io => if io then (if m = .rt ∨ m = .dp then some (d, m) else none) else some (d, if imm d then .dp else .fz)
def argsD (ρ : En) : List Arg → List Bool → Option (List (D × Md))
  | [], [] => some []
  | a :: r, b :: bs => (argD ρ a b).bind fun d => (argsD ρ r bs).map (d :: ·)
  | _, _ => none
/-- the slot that the argument at j is, if it is changed -/
def outOf (as : List Arg) (io : List Bool) (j : Nat) : Option Nat := match as[j]?, io[j]? with
  | some (.sl k), some true => some k
  | _, _ => none
/-- where a slot is handed in to be changed -/
def inAt (as : List Arg) (io : List Bool) (i : Nat) : Option Nat := (List.range as.length).find? fun j => decide (outOf as io j = some i)
def isSl (i : Nat) : Arg → Bool
  | .sl k => decide (k = i)
  | _ => false
/-- no changed argument stands elsewhere among them -/
def argsOk (as : List Arg) (io : List Bool) : Bool := (List.range as.length).all fun j => match outOf as io j with
  | some i => (List.range as.length).all fun j' => decide (j = j') || !((as[j']?).any (isSl i))
  | none => true
/-- the slots behind a call: the changed ones hold what came out, the lent ones are as before or shared -/
def putOuts (free : Bool) (as : List Arg) (io : List Bool) (outs : List (Nat × (D × Md))) (ρ : En) : En := ρ.mapIdx fun i x => match inAt as io i with
  | some j => outs.lookup j
  | none => if as.any (isSl i) && !free then x.map (fun dm => (dm.1, .fz)) else x
def callD (Γ : Ga) (f : Nat) (io : List Bool) (as : List Arg) (ρ : En) : R (D × Md) :=
  if argsOk as io then
    match argsD ρ as io with
    | some ds => match Γ f ds with
      | .ok r outs => .ok r (putOuts (decide (r.2 = .dp) && outs.all fun o => decide (o.2.2 = .dp)) as io outs ρ)
      | .exc c fs => .exc c fs (putOuts false as io [] ρ)
      | .bad => .bad
    | none => .bad
  else .bad
/-- a new object, made by its maker -/
def mkD (Γ : Ga) (c f : Nat) (io : List Bool) (as : List Arg) (ρ : En) : R (D × Md) :=
  let as := .vl (.ins c []) .dp :: as
  if argsOk as io && decide (io[0]? = some true) then
    match argsD ρ as io with
    | some ds => match Γ f ds with
      | .ok r outs => match r.1, outs.lookup 0 with
        | .non, some o => .ok o (putOuts (decide (r.2 = .dp) && outs.all fun o => decide (o.2.2 = .dp)) as io outs ρ)
        | _, _ => .bad
      | .exc c fs => .exc c fs (putOuts false as io [] ρ)
      | .bad => .bad
    | none => .bad
  else .bad
def wipeE (own : List Nat) (ρ : En) : En := own.foldl (fun ρ i => ρ.set i none) ρ
def bindT : List Nat → List D → En → Option En
  | [], [], ρ => some ρ
  | i :: is, d :: ds, ρ => bindT is ds (ρ.set i (some (itemM d)))
  | _, _, _ => none
def bindOne (tup : Bool) (tg : List Nat) (d : D) (ρ : En) : Option En := match tup, tg, d with
  | false, [i], d => some (ρ.set i (some (itemM d)))
  | true, is, .tup ds => bindT is ds ρ
  | _, _, _ => none
/-- a comprehension's turns -/
def compGo (f : D → En → R (Option (D × Md))) : List D → List (D × Md) → En → R (List (D × Md))
  | [], acc, ρ => .ok acc ρ
  | d :: r, acc, ρ => match f d ρ with
    | .ok (some x) ρ => if decide (acc.length < sizeLine) then compGo f r (acc ++ [x]) ρ else .bad
    | .ok none ρ => compGo f r acc ρ
    | _ => .bad
def lstOf (xs : List (D × Md)) : D × Md := (.lst (xs.map (·.1)), if xs.all fun x => decide (x.2 = .dp) then .dp else .rt)
def tupOf (xs : List (D × Md)) : D × Md := (.tup (xs.map (·.1)), if xs.all fun x => decide (x.2 = .dp) then .dp else .fz)

mutual
/-- may it change what a slot holds -/
def eff (P : Pg) : Ex → Bool
  | .bin _ a b => eff P a || eff P b
  | .neg a => eff P a
  | .cmp _ a b => eff P a || eff P b
  | .chain _ _ a b c => eff P a || eff P b || eff P c
  | .isN _ a => eff P a
  | .and es => effL P es
  | .or es => effL P es
  | .not a => eff P a
  | .ife t a b => eff P t || eff P a || eff P b
  | .lst es => effL P es
  | .tup es => effL P es
  | .ix a b => eff P a || eff P b
  | .slc a lo hi => eff P a || effL P lo || effL P hi
  | .fld a _ => eff P a
  | .call f es => (P.io f).any id || effL P es
  | .mk c es => (P.io (P.ini c)).any id || effL P es
  | .meth _ _ _ => true
  | .bi _ es => effL P es
  | .isI a _ => eff P a
  | .pop _ => true
  | .popAt _ _ => true
  | .compR _ _ as ifs e => effL P as || effL P ifs || eff P e
  | .compL _ _ _ a ifs e => eff P a || effL P ifs || eff P e
  | _ => false
def effL (P : Pg) : List Ex → Bool
  | [] => false
  | e :: r => eff P e || effL P r
end

section
variable (P : Pg) (Γ : Ga)
/-- what was looked at first still stands behind the second -/
def keptL (a b : Ex) (d : D) : Bool := !isVar a || !eff P b || prim d
mutual
def ev : Ex → En → R (D × Md)
  | .int i, ρ => .ok (.int i, .dp) ρ
  | .str x, ρ => .ok (.str x, .dp) ρ
  | .bl b, ρ => .ok (.bl b, .dp) ρ
  | .non, ρ => .ok (.non, .dp) ρ
  | .var i, ρ => rdVar i ρ
  | .mv i, ρ => mvVar i ρ
  | .bin op a b, ρ => (cpy a (ev a ρ) ρ).bind fun x ρ => (cpy b (ev b ρ) ρ).bind fun y ρ => if keptL P a b x then R.opt (binD op x y) ρ else .bad
  | .neg a, ρ => (look a (ev a ρ) ρ).bind fun x ρ => match x with
    | .int i => .ok (.int (-i), .dp) ρ
    | _ => .bad
  | .cmp op a b, ρ => (look a (ev a ρ) ρ).bind fun x ρ => (look b (ev b ρ) ρ).bind fun y ρ => if keptL P a b x then (R.opt (cmpD op x y) ρ).bind fun k ρ => .ok (.bl k, .dp) ρ else .bad
  | .chain op op' a b c, ρ => (look a (ev a ρ) ρ).bind fun x ρ => (look b (ev b ρ) ρ).bind fun y ρ => if prim x && prim y then (R.opt (cmpD op x y) ρ).bind fun k ρ =>
      if k then (look c (ev c ρ) ρ).bind fun z ρ => (R.opt (cmpD op' y z) ρ).bind fun k ρ => .ok (.bl k, .dp) ρ else .ok (.bl false, .dp) ρ else .bad
  | .isN neg a, ρ => (look a (ev a ρ) ρ).bind fun x ρ => match x with
    | .non => .ok (.bl (!neg), .dp) ρ
    | _ => .ok (.bl neg, .dp) ρ
  | .and es, ρ => (evAnd es ρ).bind fun k ρ => .ok (.bl k, .dp) ρ
  | .or es, ρ => (evOr es ρ).bind fun k ρ => .ok (.bl k, .dp) ρ
  | .not a, ρ => (look a (ev a ρ) ρ).bind fun x ρ => match x with
    | .bl k => .ok (.bl (!k), .dp) ρ
    | _ => .bad
  | .ife t a b, ρ => (look t (ev t ρ) ρ).bind fun x ρ => match x with
    | .bl true => ev a ρ
    | .bl false => ev b ρ
    | _ => .bad
  | .lst es, ρ => (evL es ρ).bind fun xs ρ => if decide (xs.length ≤ sizeLine) then .ok (lstOf xs) ρ else .bad
  | .tup es, ρ => (evL es ρ).bind fun xs ρ => if decide (xs.length ≤ sizeLine) then .ok (tupOf xs) ρ else .bad
  | .dK0, ρ => .ok (.dK [], .dp) ρ
  | .dT0, ρ => .ok (.dT [], .dp) ρ
  | .ix a b, ρ => (cpy a (ev a ρ) ρ).bind fun x ρ => (look b (ev b ρ) ρ).bind fun y ρ => if keptL P a b x then (R.opt (ixD x y) ρ).bind fun z ρ => .ok (itemM z) ρ else .bad
  | .slc a lo hi, ρ => (cpy a (ev a ρ) ρ).bind fun x ρ => (evPart lo ρ).bind fun l ρ => (evPart hi ρ).bind fun h ρ => if !isVar a || (!effL P lo && !effL P hi) then R.opt (slcD x l h) ρ else .bad
  | .fld a f, ρ => (cpy a (ev a ρ) ρ).bind fun x ρ => match x with
    | .ins c fs => if P.fo c f then (R.opt (fs.lookup f) ρ).bind fun z ρ => .ok (itemM z) ρ else .bad
    | _ => .bad
  | .call f es, ρ => (evArgs es ρ).bind fun as ρ => callD Γ f (P.io f) as ρ
  | .bi b es, ρ => (evLook b.cp es ρ).bind fun xs ρ => R.opt (biD b xs) ρ
  | .isI a t, ρ => (look a (ev a ρ) ρ).bind fun x ρ => (R.opt (isD x t) ρ).bind fun k ρ => .ok (.bl k, .dp) ρ
  | .pop i, ρ => popGo i (fun xs => if xs.length = 0 then none else some (xs.length - 1)) ρ
  | .popAt i e, ρ => (R.opt (isLst (slot ρ i)) ρ).bind fun _ ρ => (look e (ev e ρ) ρ).bind fun x ρ => match x with
    | .int k => popGo i (fun xs => if decide (-(2 ^ 63) ≤ k) && decide (k < 2 ^ 63) then seqIndex? k xs.length else none) ρ
    | _ => .bad
  | .compR own tg as ifs e, ρ => (evL as ρ).bind fun xs ρ => match rngD (xs.map (·.1)) with
    | some (lo, n) => (compGo (fun d ρ => match bindOne false [tg] d ρ with
        | some ρ => (evIfs ifs ρ).bind fun k ρ => if k then (ev e ρ).bind fun x ρ => .ok (some x) (wipeE own ρ) else .ok none (wipeE own ρ)
        | none => .bad) ((List.range n).map fun j => .int (lo + (j : Nat))) [] (wipeE own ρ)).bind fun xs ρ => .ok (lstOf xs) ρ
    | none => .bad
  | .compL own tup tg a ifs e, ρ => (cpy a (ev a ρ) ρ).bind fun x ρ => if isVar a && (effL P ifs || eff P e) then .bad else match x with
    | .lst ds => (compGo (fun d ρ => match bindOne tup tg d ρ with
        | some ρ => (evIfs ifs ρ).bind fun k ρ => if k then (ev e ρ).bind fun x ρ => .ok (some x) (wipeE own ρ) else .ok none (wipeE own ρ)
        | none => .bad) ds [] (wipeE own ρ)).bind fun xs ρ => .ok (lstOf xs) ρ
    | _ => .bad
  | .sh i, ρ => rdVar i ρ
  | .mk c es, ρ => (evArgs es ρ).bind fun as ρ => mkD Γ c (P.ini c) (P.io (P.ini c)) as ρ
  | .meth i m es, ρ => (match slot ρ i with
      | some (.ins c fs, _) => (match P.mth c m, fs.lookup m with
        | some f, none => (evArgs es ρ).bind fun as ρ => callD Γ f (P.io f) (.sl i :: as) ρ
        | _, _ => .bad)
      | _ => .bad)
  | .hole, _ => .bad
where
  popGo (i : Nat) (k : List D → Option Nat) (ρ : En) : R (D × Md) := match slot ρ i with
    | some (.lst xs, m) => if m = .rt ∨ m = .dp then (match k xs with
      | some j => match xs[j]? with
        | some d => .ok (itemM d) (ρ.set i (some (.lst (xs.eraseIdx j), if m = .dp && imm d then .dp else .rt)))
        | none => .bad
      | none => .bad) else .bad
    | _ => .bad
/-- truths, from the left -/
def evAnd : List Ex → En → R Bool
  | [], ρ => .ok true ρ
  | e :: r, ρ => (look e (ev e ρ) ρ).bind fun x ρ => match x with
    | .bl true => evAnd r ρ
    | .bl false => .ok false ρ
    | _ => .bad
def evOr : List Ex → En → R Bool
  | [], ρ => .ok false ρ
  | e :: r, ρ => (look e (ev e ρ) ρ).bind fun x ρ => match x with
    | .bl true => .ok true ρ
    | .bl false => evOr r ρ
    | _ => .bad
/-- values that stay -/
def evL : List Ex → En → R (List (D × Md))
  | [], ρ => .ok [] ρ
  | e :: r, ρ => (ev e ρ).bind fun x ρ => (evL r ρ).bind fun xs ρ => .ok (x :: xs) ρ
/-- a part of a slice -/
def evPart : List Ex → En → R (Option Int)
  | [], ρ => .ok none ρ
  | e :: _, ρ => (look e (ev e ρ) ρ).bind fun x ρ => match x with
    | .int i => .ok (some i) ρ
    | _ => .bad
/-- a built-in's arguments -/
def evLook (c : Bool) : List Ex → En → R (List D)
  | [], ρ => .ok [] ρ
  | e :: r, ρ => (if c then cpy e (ev e ρ) ρ else look e (ev e ρ) ρ).bind fun x ρ => if isVar e && effL P r && !prim x then .bad else (evLook c r ρ).bind fun xs ρ => .ok (x :: xs) ρ
/-- a def's arguments -/
def evArgs : List Ex → En → R (List Arg)
  | [], ρ => .ok [] ρ
  | .var i :: r, ρ => (R.opt (slot ρ i) ρ).bind fun _ ρ => (evArgs r ρ).bind fun as ρ => .ok (.sl i :: as) ρ
  | e :: r, ρ => (ev e ρ).bind fun x ρ => (evArgs r ρ).bind fun as ρ => .ok (.vl x.1 x.2 :: as) ρ
/-- a comprehension's tests -/
def evIfs : List Ex → En → R Bool
  | [], ρ => .ok true ρ
  | e :: _, ρ => (look e (ev e ρ) ρ).bind fun x ρ => match x with
    | .bl k => .ok k ρ
    | _ => .bad
end
end

/-! ### statements -/
inductive Fl where
  | nx (ρ : En)
  | ret (r : D × Md) (ρ : En)
  | brk (ρ : En)
  | cnt (ρ : En)
  | exc (c : Nat) (fs : List (Str × D)) (ρ : En)
  | bad
def R.fl {α : Type} (x : R α) (f : α → En → Fl) : Fl := match x with
  | .ok a ρ => f a ρ
  | .exc c fs ρ => .exc c fs ρ
  | .bad => .bad
def Fl.seq (x : Fl) (f : En → Fl) : Fl := match x with
  | .nx ρ => f ρ
  | o => o
/-- a for's turns -/
def forGo (f : D → En → Fl) : List D → En → Fl
  | [], ρ => .nx ρ
  | d :: r, ρ => match f d ρ with
    | .nx ρ => forGo f r ρ
    | .cnt ρ => forGo f r ρ
    | .brk ρ => .nx ρ
    | o => o
/-- a while's turns, at most so many -/
def whileGo (c : En → R Bool) (f : En → Fl) : Nat → En → Fl
  | 0, _ => .bad
  | n + 1, ρ => (c ρ).fl fun k ρ => if k then (match f ρ with
    | .nx ρ => whileGo c f n ρ
    | .cnt ρ => whileGo c f n ρ
    | .brk ρ => .nx ρ
    | o => o) else .nx ρ
def putL (i : Nat) (ρ : En) (f : List D → Option (List D)) (x : D × Md) : Fl := match slot ρ i with
  | some (.lst xs, m) => if m = .rt ∨ m = .dp then (match f xs with
    | some ys => .nx (ρ.set i (some (.lst ys, if m = .dp ∧ x.2 = .dp then .dp else .rt)))
    | none => .bad) else .bad
  | _ => .bad
def putFD (f : Str) (d : D) : List (Str × D) → List (Str × D)
  | [] => [(f, d)]
  | (k, x) :: r => if k = f then (k, d) :: r else (k, x) :: putFD f d r
/-- in its place, or at the end -/
def putKD {κ : Type} [DecidableEq κ] (kvs : List (κ × D)) (k : κ) (d : D) : List (κ × D) :=
  if (kvs.any fun kv => decide (kv.1 = k)) = true then kvs.map (fun kv => if kv.1 = k then (kv.1, d) else kv) else kvs ++ [(k, d)]
def isDic : Option (D × Md) → Option Unit
  | some (.dK _, _) => some ()
  | some (.dT _, _) => some ()
  | _ => none
/-- a dict at a slot takes a value at a key -/
def putC (i : Nat) (y : D) (x : D × Md) (ρ : En) : Fl := match slot ρ i with
  | some (.dK kvs, m) => if m = .rt ∨ m = .dp then (match keyOf y with
    | some k => if kvs.length < sizeLine then .nx (ρ.set i (some (.dK (putKD kvs k x.1), if m = .dp ∧ x.2 = .dp then .dp else .rt))) else .bad
    | none => .bad) else .bad
  | some (.dT kvs, m) => if m = .rt ∨ m = .dp then (match y with
    | .tup ks => (match keysOf ks with
      | some k => if kvs.length < sizeLine then .nx (ρ.set i (some (.dT (putKD kvs k x.1), if m = .dp ∧ x.2 = .dp then .dp else .rt))) else .bad
      | none => .bad)
    | _ => .bad) else .bad
  | _ => .bad
def insAt (k : Int) (d : D) (xs : List D) : List D := let n := (if k < 0 then max (k + xs.length) 0 else min k xs.length).toNat; xs.take n ++ d :: xs.drop n
section
variable (P : Pg) (Γ : Ga)
mutual
def hxD (fs : List (Str × D)) : Hx → Option D
  | .lit (.int i) => some (.int i)
  | .lit (.str x) => some (.str x)
  | .lit (.bl b) => some (.bl b)
  | .lit .non => some .non
  | .lit _ => none
  | .fld f => fs.lookup f
  | .tup l => if l.length ≤ 4 then (hxL fs l).map .tup else none
def hxL (fs : List (Str × D)) : List Hx → Option (List D)
  | [] => some []
  | h :: r => (hxD fs h).bind fun d => (hxL fs r).map (d :: ·)
end
def oneF (f : Str) : List (Str × D) → Bool
  | [(g, _)] => decide (g = f)
  | _ => false
/-- which clause takes an error, if one does -/
def clause (c : Nat) : List (Nat × Option Nat × Hx) → Option (Option Nat × Hx)
  | [] => none
  | (k, i, s) :: r => if P.sup c k then some (i, s) else clause c r
mutual
def exS : Sm → En → Fl
  | .set i e, ρ => (ev P Γ e ρ).fl fun x ρ => .nx (ρ.set i (some x))
  | .setT is e, ρ => (ev P Γ e ρ).fl fun x ρ => match bindOne true is x.1 ρ with
    | some ρ => .nx ρ
    | none => .bad
  | .aug i op e, ρ => match slot ρ i with
    | some (.int a, _) => (ev P Γ e ρ).fl fun y ρ => match y.1 with
      | .int b => match binD op (.int a) (.int b) with
        | some z => .nx (ρ.set i (some z))
        | none => .bad
      | _ => .bad
    | _ => .bad
  | .setIx i k e, ρ => (ev P Γ e ρ).fl fun x ρ => (R.opt (isLst (slot ρ i)) ρ).fl fun _ ρ => (look k (ev P Γ k ρ) ρ).fl fun y ρ => match y with
    | .int z => putL i ρ (fun xs => (ixN xs.length z).map fun j => xs.set j x.1) x
    | _ => .bad
  | .setK i k e, ρ => (ev P Γ e ρ).fl fun x ρ => (R.opt (isDic (slot ρ i)) ρ).fl fun _ ρ => (look k (ev P Γ k ρ) ρ).fl fun y ρ => putC i y x ρ
  | .augIx i k op e, ρ => (R.opt (isLst (slot ρ i)) ρ).fl fun _ ρ => (look k (ev P Γ k ρ) ρ).fl fun y ρ => match y, slot ρ i with
    | .int z, some (.lst xs, _) => match atI xs z with
      | some (.int a) => (ev P Γ e ρ).fl fun u ρ => match u.1 with
        | .int b => match binD op (.int a) (.int b) with
          | some r => putL i ρ (fun xs => (ixN xs.length z).map fun j => xs.set j r.1) r
          | none => .bad
        | _ => .bad
      | _ => .bad
    | _, _ => .bad
  | .setF i f e, ρ => (ev P Γ e ρ).fl fun x ρ => match slot ρ i with
    | some (.ins c fs, m) => if (m = .rt ∨ m = .dp) ∧ fs.length < 999 ∧ P.fo c f = true then .nx (ρ.set i (some (.ins c (putFD f x.1 fs), if m = .dp ∧ x.2 = .dp then .dp else .rt))) else .bad
    | _ => .bad
  | .app i e, ρ => (R.opt (isLst (slot ρ i)) ρ).fl fun _ ρ => (ev P Γ e ρ).fl fun x ρ => putL i ρ (fun xs => if xs.length < sizeLine then some (xs ++ [x.1]) else none) x
  | .insr i a b, ρ => .bad
  | .expr e, ρ => (ev P Γ e ρ).fl fun _ ρ => .nx ρ
  | .ret e, ρ => (ev P Γ e ρ).fl fun x ρ => .ret x ρ
  | .retN, ρ => .ret (.non, .dp) ρ
  | .ife t a b, ρ => (look t (ev P Γ t ρ) ρ).fl fun x ρ => match x with
    | .bl true => exSs a ρ
    | .bl false => exSs b ρ
    | _ => .bad
  | .forR i as body, ρ => (evL P Γ as ρ).fl fun ys ρ => match rngD (ys.map (·.1)) with
    | some (lo, n) => forGo (fun d ρ => match bindOne false [i] d ρ with
        | some ρ => exSs body ρ
        | none => .bad) ((List.range n).map fun j => .int (lo + (j : Nat))) ρ
    | none => .bad
  | .forL tup is e body, ρ => (ev P Γ e ρ).fl fun x ρ => match x.1 with
    | .lst ds => forGo (fun d ρ => match bindOne tup is d ρ with
        | some ρ => exSs body ρ
        | none => .bad) ds ρ
    | .tup ds => forGo (fun d ρ => match bindOne tup is d ρ with
        | some ρ => exSs body ρ
        | none => .bad) ds ρ
    | _ => .bad
  | .raise c e, ρ => (ev P Γ e ρ).fl fun x ρ => .exc c [(P.ef c, x.1)] ρ
  | .tri body hs, ρ => match exSs body ρ with
    | .exc c fs ρ => if P.ek c && oneF (P.ef c) fs then (match clause P c hs with
      | some (oi, b) => if oi.all (fun i => decide (i < ρ.length)) then (match hxD fs b with
        | some d => .ret (itemM d) ρ
        | none => .bad) else .bad
      | none => .exc c fs ρ) else .bad
    | o => o
  | .whl t body, ρ => whileGo (fun ρ => (look t (ev P Γ t ρ) ρ).bind fun x ρ => match x with
    | .bl k => .ok k ρ
    | _ => .bad) (fun ρ => exSs body ρ) 1000000 ρ
  | .brk, ρ => .brk ρ
  | .cnt, ρ => .cnt ρ
  | .pass, ρ => .nx ρ
  | .hole, _ => .bad
def exSs : List Sm → En → Fl
  | [], ρ => .nx ρ
  | s :: r, ρ => (exS s ρ).seq fun ρ => exSs r ρ
end
/-- what the changed parameters are in the end -/
def outsL (ρ : En) : Nat → List Bool → Option (List (Nat × (D × Md)))
  | _, [] => some []
  | j, true :: bs => (slot ρ j).bind fun o => (outsL ρ (j + 1) bs).map ((j, o) :: ·)
  | j, false :: bs => outsL ρ (j + 1) bs
def endF (io : List Bool) : Fl → Rf
  | .ret x ρ => match outsL ρ 0 io with
    | some os => .ok x os
    | none => .bad
  | .nx ρ => match outsL ρ 0 io with
    | some os => .ok (.non, .dp) os
    | none => .bad
  | .exc c fs _ => .exc c fs
  | _ => .bad
/-- a def: io tells which parameters it changes, many how many names it has -/
def runF (io : List Bool) (many : Nat) (body : List Sm) (ds : List (D × Md)) : Rf :=
  if ds.length = io.length then endF io (exSs P Γ body (ds.map some ++ List.replicate (many - ds.length) none)) else .bad
end
/-- a def of the program -/
structure Fn where
  io : List Bool
  many : Nat
  body : List Sm
/-- the program, calls nested up to n deep -/
def run (P : Pg) (F : Nat → Fn) : Nat → Ga
  | 0 => fun _ _ => .bad
  | n + 1 => fun f => runF P (run P F n) (F f).io (F f).many (F f).body
end VS

set_option Elab.async false
set_option linter.all false
set_option maxRecDepth 100000
/-! VC: what the evaluator's outcomes promise; looked-at data; operators by values. -/
namespace VS
open PySem PySem.Spec PyProof.Rows L2

/-! ### looked at: where the objects stand, whoever owns them -/
section
variable (C : Nat → Addr) (H : Hp)
mutual
def Vw : D → V → Prop
  | .non, v => v = .non
  | .bl b, v => v = .bl b
  | .int i, v => v = .int i
  | .str x, v => v = .str x
  | .lst xs, v => ∃ a vs, v = .ref a ∧ Rd H a (.lst vs) ∧ VwL xs vs
  | .tup xs, v => ∃ a vs, v = .ref a ∧ H a = some (.tup vs) ∧ VwL xs vs
  | .ins c fs, v => ∃ a dx vs, v = .ref a ∧ H a = some (.ins (C c) dx vs) ∧ VwF fs vs
  | .dK kvs, v => ∃ a vs, v = .ref a ∧ H a = some (.dK vs) ∧ VwK kvs vs
  | .dT kvs, v => ∃ a vs, v = .ref a ∧ H a = some (.dT vs) ∧ VwT kvs vs
def VwL : List D → List V → Prop
  | [], vs => vs = []
  | d :: r, vs => ∃ v vr, vs = v :: vr ∧ Vw d v ∧ VwL r vr
def VwF : List (Str × D) → List (Str × V) → Prop
  | [], vs => vs = []
  | (f, d) :: r, vs => ∃ v vr, vs = (f, v) :: vr ∧ Vw d v ∧ VwF r vr
def VwK : List (Key × D) → List (Key × V) → Prop
  | [], vs => vs = []
  | (f, d) :: r, vs => ∃ v vr, vs = (f, v) :: vr ∧ Vw d v ∧ VwK r vr
def VwT : List (List Key × D) → List (List Key × V) → Prop
  | [], vs => vs = []
  | (f, d) :: r, vs => ∃ v vr, vs = (f, v) :: vr ∧ Vw d v ∧ VwT r vr
end
end
section
variable {C : Nat → Addr} {w : Wh} {H H' : Hp} {i : Id}
mutual
theorem Rep.vw : ∀ (d : D) (m : Md) (v : V), Rep C w H d m i v → Vw C H d v
  | .non, _, _, h => h
  | .bl _, _, _, h => h
  | .int _, _, _, h => h
  | .str _, _, _, h => h
  | .lst xs, m, v, ⟨a, vs, e, _, hH, hr⟩ => ⟨a, vs, e, by rcases hH with h | ⟨_, o, h⟩; exact .inl h; exact .inr ⟨o, h⟩, RepL.vw xs _ vs hr⟩
  | .tup xs, m, v, ⟨a, vs, e, _, hH, hr⟩ => ⟨a, vs, e, hH, RepL.vw xs _ vs hr⟩
  | .ins c fs, m, v, ⟨a, dx, vs, e, _, hH, hr⟩ => ⟨a, dx, vs, e, hH, RepF.vw fs _ vs hr⟩
  | .dK fs, m, v, ⟨a, vs, e, _, hH, hr⟩ => ⟨a, vs, e, hH, RepK.vw fs _ vs hr⟩
  | .dT fs, m, v, ⟨a, vs, e, _, hH, hr⟩ => ⟨a, vs, e, hH, RepT.vw fs _ vs hr⟩
theorem RepL.vw : ∀ (ds : List D) (m : Md) (vs : List V), RepL C w H ds m i vs → VwL C H ds vs
  | [], _, _, h => h
  | d :: r, m, vs, ⟨v, vr, e, h1, h2⟩ => ⟨v, vr, e, Rep.vw d m v h1, RepL.vw r m vr h2⟩
theorem RepF.vw : ∀ (ds : List (Str × D)) (m : Md) (vs : List (Str × V)), RepF C w H ds m i vs → VwF C H ds vs
  | [], _, _, h => h
  | (f, d) :: r, m, vs, ⟨v, vr, e, h1, h2⟩ => ⟨v, vr, e, Rep.vw d m v h1, RepF.vw r m vr h2⟩
theorem RepK.vw : ∀ (ds : List (Key × D)) (m : Md) (vs : List (Key × V)), RepK C w H ds m i vs → VwK C H ds vs
  | [], _, _, h => h
  | (f, d) :: r, m, vs, ⟨v, vr, e, h1, h2⟩ => ⟨v, vr, e, Rep.vw d m v h1, RepK.vw r m vr h2⟩
theorem RepT.vw : ∀ (ds : List (List Key × D)) (m : Md) (vs : List (List Key × V)), RepT C w H ds m i vs → VwT C H ds vs
  | [], _, _, h => h
  | (f, d) :: r, m, vs, ⟨v, vr, e, h1, h2⟩ => ⟨v, vr, e, Rep.vw d m v h1, RepT.vw r m vr h2⟩
end
theorem Rd.same {a : Addr} {o : HO} (s : Same H H') (h : Rd H a o) : Rd H' a o := by
  rcases h with h | ⟨ob, h⟩
  · exact .inl (s _ _ h)
  · exact .inr ⟨ob, s _ _ h⟩
mutual
theorem Vw.same (s : Same H H') : ∀ (d : D) (v : V), Vw C H d v → Vw C H' d v
  | .non, _, h => h
  | .bl _, _, h => h
  | .int _, _, h => h
  | .str _, _, h => h
  | .lst xs, v, ⟨a, vs, e, hH, hr⟩ => ⟨a, vs, e, Rd.same s hH, VwL.same s xs vs hr⟩
  | .tup xs, v, ⟨a, vs, e, hH, hr⟩ => ⟨a, vs, e, s _ _ hH, VwL.same s xs vs hr⟩
  | .ins c fs, v, ⟨a, dx, vs, e, hH, hr⟩ => ⟨a, dx, vs, e, s _ _ hH, VwF.same s fs vs hr⟩
  | .dK fs, v, ⟨a, vs, e, hH, hr⟩ => ⟨a, vs, e, s _ _ hH, VwK.same s fs vs hr⟩
  | .dT fs, v, ⟨a, vs, e, hH, hr⟩ => ⟨a, vs, e, s _ _ hH, VwT.same s fs vs hr⟩
theorem VwL.same (s : Same H H') : ∀ (ds : List D) (vs : List V), VwL C H ds vs → VwL C H' ds vs
  | [], _, h => h
  | d :: r, vs, ⟨v, vr, e, h1, h2⟩ => ⟨v, vr, e, Vw.same s d v h1, VwL.same s r vr h2⟩
theorem VwF.same (s : Same H H') : ∀ (ds : List (Str × D)) (vs : List (Str × V)), VwF C H ds vs → VwF C H' ds vs
  | [], _, h => h
  | (f, d) :: r, vs, ⟨v, vr, e, h1, h2⟩ => ⟨v, vr, e, Vw.same s d v h1, VwF.same s r vr h2⟩
theorem VwK.same (s : Same H H') : ∀ (ds : List (Key × D)) (vs : List (Key × V)), VwK C H ds vs → VwK C H' ds vs
  | [], _, h => h
  | (f, d) :: r, vs, ⟨v, vr, e, h1, h2⟩ => ⟨v, vr, e, Vw.same s d v h1, VwK.same s r vr h2⟩
theorem VwT.same (s : Same H H') : ∀ (ds : List (List Key × D)) (vs : List (List Key × V)), VwT C H ds vs → VwT C H' ds vs
  | [], _, h => h
  | (f, d) :: r, vs, ⟨v, vr, e, h1, h2⟩ => ⟨v, vr, e, Vw.same s d v h1, VwT.same s r vr h2⟩
end
theorem Vw.prim {d : D} {v : V} (p : prim d = true) (h : Vw C H d v) : Vw C H' d v := by
  cases d with
  | non => exact h
  | bl b => exact h
  | int i => exact h
  | str x => exact h
  | _ => simp [VS.prim] at p
/-- a root that is looked at, its items shared -/
def Cp (C : Nat → Addr) (w : Wh) (H : Hp) : D → V → Prop
  | .lst xs, v => ∃ a vs, v = .ref a ∧ Rd H a (.lst vs) ∧ RepL C w H xs .fz (.s 0) vs
  | .ins c fs, v => ∃ a dx vs, v = .ref a ∧ H a = some (.ins (C c) dx vs) ∧ RepF C w H fs .fz (.s 0) vs
  | .dK kvs, v => ∃ a vs, v = .ref a ∧ H a = some (.dK vs) ∧ RepK C w H kvs .fz (.s 0) vs
  | .dT kvs, v => ∃ a vs, v = .ref a ∧ H a = some (.dT vs) ∧ RepT C w H kvs .fz (.s 0) vs
  | d, v => Rep C w H d .fz (.s 0) v
theorem RepF.fzId {i i' : Id} {w : Wh} {H : Hp} {d : List (Str × D)} {v : List (Str × V)} (r : RepF C w H d .fz i v) : RepF C w H d .fz i' v := RepF.fzEvo (n := 0) .refl r
theorem RepK.fzEvo {n : Nat} {i i' : Id} {w w' : Wh} {H H' : Hp} {d : List (Key × D)} {v : List (Key × V)} (e : Evo n w H w' H') (r : RepK C w H d .fz i v) : RepK C w' H' d .fz i' v := by
  have key : Keeps w w' H H' .fz .fz i i' := ⟨fun h => h, fun a o q q2 => ⟨(e.kW' q (.inr (.inl q2)) (by rw [q2]; intro z; cases z)).trans q2, e.kH a o q (.inr (.inl q2))⟩, fun a o q q2 => ⟨(e.kW' q (.inr (.inl q2)) (by rw [q2]; intro z; cases z)).trans q2, e.kH a _ q (.inr (.inl q2))⟩⟩
  exact RepK.map d _ _ v key key r
theorem RepT.fzEvo {n : Nat} {i i' : Id} {w w' : Wh} {H H' : Hp} {d : List (List Key × D)} {v : List (List Key × V)} (e : Evo n w H w' H') (r : RepT C w H d .fz i v) : RepT C w' H' d .fz i' v := by
  have key : Keeps w w' H H' .fz .fz i i' := ⟨fun h => h, fun a o q q2 => ⟨(e.kW' q (.inr (.inl q2)) (by rw [q2]; intro z; cases z)).trans q2, e.kH a o q (.inr (.inl q2))⟩, fun a o q q2 => ⟨(e.kW' q (.inr (.inl q2)) (by rw [q2]; intro z; cases z)).trans q2, e.kH a _ q (.inr (.inl q2))⟩⟩
  exact RepT.map d _ _ v key key r
/-- what is shared, or shared below its root -/
theorem Rep.cp {w : Wh} {H : Hp} {d : D} {m : Md} {i : Id} {v : V} (hm : m = .fz ∨ m = .rt) (r : Rep C w H d m i v) : Cp C w H d v := by
  have hc : m.child = .fz := by rcases hm with e | e <;> subst e <;> rfl
  cases d with
  | non => exact r
  | bl b => exact r
  | int i => exact r
  | str x => exact r
  | lst xs =>
    obtain ⟨a, vs, e, _, hH, hr⟩ := r
    rw [hc] at hr
    exact ⟨a, vs, e, by rcases hH with h | ⟨_, o, h⟩; exact .inl h; exact .inr ⟨o, h⟩, hr.fzId⟩
  | tup xs =>
    obtain ⟨a, vs, e, hw, hH, hr⟩ := r
    rw [hc] at hr
    exact ⟨a, vs, e, hw, hH, hr.fzId⟩
  | ins c fs =>
    obtain ⟨a, dx, vs, e, _, hH, hr⟩ := r
    rw [hc] at hr
    exact ⟨a, dx, vs, e, hH, hr.fzId⟩
  | dK kvs =>
    obtain ⟨a, vs, e, _, hH, hr⟩ := r
    rw [hc] at hr
    exact ⟨a, vs, e, hH, RepK.fzEvo (n := 0) .refl hr⟩
  | dT kvs =>
    obtain ⟨a, vs, e, _, hH, hr⟩ := r
    rw [hc] at hr
    exact ⟨a, vs, e, hH, RepT.fzEvo (n := 0) .refl hr⟩
mutual
theorem RepF.imm {i' : Id} : ∀ (ds : List (Str × D)) (m m' : Md) (vs : List (Str × V)), immF ds = true → RepF C w H ds m i vs → RepF C w H ds m' i' vs
  | [], _, _, _, _, h => h
  | (f, d) :: r, m, m', vs, k, ⟨v, vr, e, h1, h2⟩ => by
    have k' : VS.imm d = true ∧ immF r = true := by simpa [immF] using k
    exact ⟨v, vr, e, Rep.imm d m m' v k'.1 h1, RepF.imm r m m' vr k'.2 h2⟩
end
theorem RepK.imm {i' : Id} : ∀ (ds : List (Key × D)) (m m' : Md) (vs : List (Key × V)), immK ds = true → RepK C w H ds m i vs → RepK C w H ds m' i' vs
  | [], _, _, _, _, h => h
  | (f, d) :: r, m, m', vs, k, ⟨v, vr, e, h1, h2⟩ => by
    have k' : VS.imm d = true ∧ immK r = true := by simpa [immK] using k
    exact ⟨v, vr, e, Rep.imm d m m' v k'.1 h1, RepK.imm r m m' vr k'.2 h2⟩
theorem RepT.imm {i' : Id} : ∀ (ds : List (List Key × D)) (m m' : Md) (vs : List (List Key × V)), immK ds = true → RepT C w H ds m i vs → RepT C w H ds m' i' vs
  | [], _, _, _, _, h => h
  | (f, d) :: r, m, m', vs, k, ⟨v, vr, e, h1, h2⟩ => by
    have k' : VS.imm d = true ∧ immK r = true := by simpa [immK] using k
    exact ⟨v, vr, e, Rep.imm d m m' v k'.1 h1, RepT.imm r m m' vr k'.2 h2⟩
/-- nothing below its root can be changed -/
theorem Rep.cpKids {w : Wh} {H : Hp} {d : D} {m : Md} {i : Id} {v : V} (hk : kids d = true) (r : Rep C w H d m i v) : Cp C w H d v := by
  cases d with
  | non => exact r
  | bl b => exact r
  | int i => exact r
  | str x => exact r
  | lst xs =>
    obtain ⟨a, vs, e, _, hH, hr⟩ := r
    exact ⟨a, vs, e, by rcases hH with h | ⟨_, o, h⟩; exact .inl h; exact .inr ⟨o, h⟩, RepL.imm xs _ _ vs hk hr⟩
  | tup xs =>
    obtain ⟨a, vs, e, hw, hH, hr⟩ := r
    exact ⟨a, vs, e, hw, hH, RepL.imm xs _ _ vs hk hr⟩
  | ins c fs =>
    obtain ⟨a, dx, vs, e, _, hH, hr⟩ := r
    exact ⟨a, dx, vs, e, hH, RepF.imm fs _ _ vs hk hr⟩
  | dK kvs =>
    obtain ⟨a, vs, e, _, hH, hr⟩ := r
    exact ⟨a, vs, e, hH, RepK.imm kvs _ _ vs hk hr⟩
  | dT kvs =>
    obtain ⟨a, vs, e, _, hH, hr⟩ := r
    exact ⟨a, vs, e, hH, RepT.imm kvs _ _ vs hk hr⟩
/-- the root stands still -/
theorem Cp.same {n : Nat} {w w' : Wh} {H H' : Hp} {d : D} {v : V} (e : Evo n w H w' H') (s : Same H H') (r : Cp C w H d v) : Cp C w' H' d v := by
  cases d with
  | non => exact r
  | bl b => exact r
  | int i => exact r
  | str x => exact r
  | lst xs => obtain ⟨a, vs, q, hH, hr⟩ := r; exact ⟨a, vs, q, Rd.same s hH, hr.fzEvo e⟩
  | tup xs => exact Rep.fzEvo e r
  | ins c fs => obtain ⟨a, dx, vs, q, hH, hr⟩ := r; exact ⟨a, dx, vs, q, s _ _ hH, hr.fzEvo e⟩
  | dK kvs => obtain ⟨a, vs, q, hH, hr⟩ := r; exact ⟨a, vs, q, s _ _ hH, hr.fzEvo e⟩
  | dT kvs => obtain ⟨a, vs, q, hH, hr⟩ := r; exact ⟨a, vs, q, s _ _ hH, hr.fzEvo e⟩
theorem Cp.vw {w : Wh} {H : Hp} {d : D} {v : V} (r : Cp C w H d v) : Vw C H d v := by
  cases d with
  | non => exact r
  | bl b => exact r
  | int i => exact r
  | str x => exact r
  | lst xs => obtain ⟨a, vs, q, hH, hr⟩ := r; exact ⟨a, vs, q, hH, RepL.vw _ _ _ hr⟩
  | tup xs => exact Rep.vw _ _ _ r
  | ins c fs => obtain ⟨a, dx, vs, q, hH, hr⟩ := r; exact ⟨a, dx, vs, q, hH, RepF.vw _ _ _ hr⟩
  | dK kvs => obtain ⟨a, vs, q, hH, hr⟩ := r; exact ⟨a, vs, q, hH, RepK.vw _ _ _ hr⟩
  | dT kvs => obtain ⟨a, vs, q, hH, hr⟩ := r; exact ⟨a, vs, q, hH, RepT.vw _ _ _ hr⟩
theorem Cp.prim {d : D} {v : V} {w w' : Wh} {H H' : Hp} (p : prim d = true) (h : Cp C w H d v) : Cp C w' H' d v := by
  cases d with
  | non => exact h
  | bl b => exact h
  | int i => exact h
  | str x => exact h
  | _ => simp [VS.prim] at p
end

/-! ### lists of trees and their values -/
section
variable {C : Nat → Addr} {w : Wh} {H : Hp} {m : Md} {i : Id}
theorem RepL.length : ∀ {ds : List D} {vs : List V}, RepL C w H ds m i vs → vs.length = ds.length
  | [], _, h => by rw [show _ = [] from h]; rfl
  | d :: r, _, ⟨v, vr, e, _, h2⟩ => by subst e; rw [List.length_cons, List.length_cons, RepL.length h2]
theorem RepL.append : ∀ {ds es : List D} {vs us : List V}, RepL C w H ds m i vs → RepL C w H es m i us → RepL C w H (ds ++ es) m i (vs ++ us)
  | [], _, _, _, h, h' => by rw [show _ = [] from h]; exact h'
  | d :: r, _, _, _, ⟨v, vr, e, h1, h2⟩, h' => by subst e; exact ⟨v, _, rfl, h1, RepL.append h2 h'⟩
theorem RepL.get : ∀ {ds : List D} {vs : List V} {j : Nat} {d : D}, RepL C w H ds m i vs → ds[j]? = some d → ∃ v, vs[j]? = some v ∧ Rep C w H d m i v
  | [], _, _, _, _, h' => by simp at h'
  | d :: r, _, 0, _, ⟨v, vr, e, h1, h2⟩, h' => by subst e; simp at h'; subst h'; exact ⟨v, rfl, h1⟩
  | d :: r, _, j + 1, _, ⟨v, vr, e, h1, h2⟩, h' => by
    subst e
    obtain ⟨u, hu, ru⟩ := RepL.get h2 (by simpa using h')
    exact ⟨u, by simpa using hu, ru⟩
theorem RepL.getV : ∀ {ds : List D} {vs : List V} {j : Nat} {v : V}, RepL C w H ds m i vs → vs[j]? = some v → ∃ d, ds[j]? = some d ∧ Rep C w H d m i v
  | [], _, _, _, h, h' => by rw [show _ = [] from h] at h'; simp at h'
  | d :: r, _, 0, _, ⟨v, vr, e, h1, h2⟩, h' => by subst e; simp at h'; subst h'; exact ⟨d, rfl, h1⟩
  | d :: r, _, j + 1, _, ⟨v, vr, e, h1, h2⟩, h' => by
    subst e
    obtain ⟨u, hu, ru⟩ := RepL.getV h2 (by simpa using h')
    exact ⟨u, by simpa using hu, ru⟩
theorem RepL.take : ∀ {ds : List D} {vs : List V} (k : Nat), RepL C w H ds m i vs → RepL C w H (ds.take k) m i (vs.take k)
  | _, _, 0, _ => by show RepL C w H (List.take 0 _) m i _; rw [List.take_zero, List.take_zero]; rfl
  | [], _, _ + 1, h => by rw [show _ = [] from h]; rfl
  | d :: r, _, k + 1, ⟨v, vr, e, h1, h2⟩ => by subst e; exact ⟨v, _, rfl, h1, RepL.take k h2⟩
theorem RepL.drop : ∀ {ds : List D} {vs : List V} (k : Nat), RepL C w H ds m i vs → RepL C w H (ds.drop k) m i (vs.drop k)
  | _, _, 0, h => h
  | [], _, _ + 1, h => by rw [show _ = [] from h]; rfl
  | d :: r, _, k + 1, ⟨v, vr, e, h1, h2⟩ => by subst e; exact RepL.drop k h2
theorem RepL.set : ∀ {ds : List D} {vs : List V} (k : Nat) {d : D} {v : V}, Rep C w H d m i v → RepL C w H ds m i vs → RepL C w H (ds.set k d) m i (vs.set k v)
  | [], _, _, _, _, _, h => by rw [show _ = [] from h]; rfl
  | d :: r, _, 0, _, _, h', ⟨v, vr, e, h1, h2⟩ => by subst e; exact ⟨_, _, rfl, h', h2⟩
  | d :: r, _, k + 1, _, _, h', ⟨v, vr, e, h1, h2⟩ => by subst e; exact ⟨v, _, rfl, h1, RepL.set k h' h2⟩
theorem RepL.erase : ∀ {ds : List D} {vs : List V} (k : Nat), RepL C w H ds m i vs → RepL C w H (ds.eraseIdx k) m i (vs.eraseIdx k)
  | [], _, _, h => by rw [show _ = [] from h]; rfl
  | d :: r, _, 0, ⟨v, vr, e, h1, h2⟩ => by subst e; exact h2
  | d :: r, _, k + 1, ⟨v, vr, e, h1, h2⟩ => by subst e; exact ⟨v, _, rfl, h1, RepL.erase k h2⟩
theorem RepL.rep {ds : List D} {vs : List V} (h : RepL C w H ds m i vs) : ∀ k : Nat, RepL C w H (List.replicate k ds).flatten m i (List.replicate k vs).flatten
  | 0 => rfl
  | k + 1 => by
    rw [List.replicate_succ, List.replicate_succ, List.flatten_cons, List.flatten_cons]
    exact h.append (RepL.rep h k)
theorem RepL.atI {ds : List D} {vs : List V} {z : Int} {d : D} (h : RepL C w H ds m i vs) (e : atI ds z = some d) : ∃ v, L2.atI vs z = some v ∧ Rep C w H d m i v := by
  unfold L2.atI at e ⊢
  rw [h.length]
  cases q : ixN ds.length z with
  | none => rw [q] at e; cases e
  | some j =>
    rw [q] at e
    exact h.get e
theorem RepL.ints : ∀ {ds : List D} {vs : List V} {ns : List Int}, intsD ds = some ns → RepL C w H ds m i vs → vs = ns.map V.int
  | [], _, _, e, h => by cases e; exact h
  | .int k :: r, _, _, e, ⟨v, vr, q, h1, h2⟩ => by
    cases q2 : intsD r with
    | none => simp [intsD, q2] at e
    | some ms =>
      simp [intsD, q2] at e
      subst e
      subst q
      rw [RepL.ints q2 h2, show v = _ from h1]
      rfl
  | .non :: r, _, _, e, _ => by simp [intsD] at e
  | .bl _ :: r, _, _, e, _ => by simp [intsD] at e
  | .str _ :: r, _, _, e, _ => by simp [intsD] at e
  | .lst _ :: r, _, _, e, _ => by simp [intsD] at e
  | .tup _ :: r, _, _, e, _ => by simp [intsD] at e
  | .ins _ _ :: r, _, _, e, _ => by simp [intsD] at e
  | .dK _ :: r, _, _, e, _ => by simp [intsD] at e
  | .dT _ :: r, _, _, e, _ => by simp [intsD] at e
theorem RepL.strs : ∀ {ds : List D} {vs : List V} {ns : List Str}, strsD ds = some ns → RepL C w H ds m i vs → vs = ns.map V.str
  | [], _, _, e, h => by cases e; exact h
  | .str k :: r, _, _, e, ⟨v, vr, q, h1, h2⟩ => by
    cases q2 : strsD r with
    | none => simp [strsD, q2] at e
    | some ms =>
      simp [strsD, q2] at e
      subst e
      subst q
      rw [RepL.strs q2 h2, show v = _ from h1]
      rfl
  | .non :: r, _, _, e, _ => by simp [strsD] at e
  | .bl _ :: r, _, _, e, _ => by simp [strsD] at e
  | .int _ :: r, _, _, e, _ => by simp [strsD] at e
  | .lst _ :: r, _, _, e, _ => by simp [strsD] at e
  | .tup _ :: r, _, _, e, _ => by simp [strsD] at e
  | .ins _ _ :: r, _, _, e, _ => by simp [strsD] at e
  | .dK _ :: r, _, _, e, _ => by simp [strsD] at e
  | .dT _ :: r, _, _, e, _ => by simp [strsD] at e
theorem VwL.length : ∀ {ds : List D} {vs : List V}, VwL C H ds vs → vs.length = ds.length
  | [], _, h => by rw [show _ = [] from h]; rfl
  | d :: r, _, ⟨v, vr, e, _, h2⟩ => by subst e; rw [List.length_cons, List.length_cons, VwL.length h2]
theorem VwL.ints : ∀ {ds : List D} {vs : List V} {ns : List Int}, intsD ds = some ns → VwL C H ds vs → vs = ns.map V.int
  | [], _, _, e, h => by cases e; exact h
  | .int k :: r, _, _, e, ⟨v, vr, q, h1, h2⟩ => by
    cases q2 : intsD r with
    | none => simp [intsD, q2] at e
    | some ms =>
      simp [intsD, q2] at e
      subst e
      subst q
      rw [VwL.ints q2 h2, show v = _ from h1]
      rfl
  | .non :: r, _, _, e, _ => by simp [intsD] at e
  | .bl _ :: r, _, _, e, _ => by simp [intsD] at e
  | .str _ :: r, _, _, e, _ => by simp [intsD] at e
  | .lst _ :: r, _, _, e, _ => by simp [intsD] at e
  | .tup _ :: r, _, _, e, _ => by simp [intsD] at e
  | .ins _ _ :: r, _, _, e, _ => by simp [intsD] at e
  | .dK _ :: r, _, _, e, _ => by simp [intsD] at e
  | .dT _ :: r, _, _, e, _ => by simp [intsD] at e
theorem VwL.bls : ∀ {ds : List D} {vs : List V} {ns : List Bool}, blsD ds = some ns → VwL C H ds vs → vs = ns.map V.bl
  | [], _, _, e, h => by cases e; exact h
  | .bl k :: r, _, _, e, ⟨v, vr, q, h1, h2⟩ => by
    cases q2 : blsD r with
    | none => simp [blsD, q2] at e
    | some ms =>
      simp [blsD, q2] at e
      subst e
      subst q
      rw [VwL.bls q2 h2, show v = _ from h1]
      rfl
  | .non :: r, _, _, e, _ => by simp [blsD] at e
  | .int _ :: r, _, _, e, _ => by simp [blsD] at e
  | .str _ :: r, _, _, e, _ => by simp [blsD] at e
  | .lst _ :: r, _, _, e, _ => by simp [blsD] at e
  | .tup _ :: r, _, _, e, _ => by simp [blsD] at e
  | .ins _ _ :: r, _, _, e, _ => by simp [blsD] at e
  | .dK _ :: r, _, _, e, _ => by simp [blsD] at e
  | .dT _ :: r, _, _, e, _ => by simp [blsD] at e

mutual
/-- data for == -/
theorem Vw.dp (K : PySem.W.Frag) : ∀ (d : D) (v : V), (toP d).canLay0 = true → Vw C H d v → Dp K H v (toP d)
  | .non, v, _, h => by rw [show v = _ from h]; exact .non
  | .bl b, v, _, h => by rw [show v = _ from h]; exact .bl b
  | .int b, v, _, h => by rw [show v = _ from h]; exact .int b
  | .str b, v, _, h => by rw [show v = _ from h]; exact .str b
  | .lst xs, v, c, ⟨a, vs, e, hH, hr⟩ => by subst e; exact .lst (.inl hH) (VwL.dp K xs vs (by simpa [toP, PyData.canLay0] using c) hr)
  | .tup xs, v, c, ⟨a, vs, e, hH, hr⟩ => by subst e; exact .tup (.inl (.inl hH)) (VwL.dp K xs vs (by simpa [toP, PyData.canLay0] using c) hr)
  | .ins _ _, _, c, _ => by simp [toP, PyData.canLay0] at c
  | .dK _, _, c, _ => by simp [toP, PyData.canLay0] at c
  | .dT _, _, c, _ => by simp [toP, PyData.canLay0] at c
theorem VwL.dp (K : PySem.W.Frag) : ∀ (ds : List D) (vs : List V), PyData.canLayAll0 (toPs ds) = true → VwL C H ds vs → DpAll K H vs (toPs ds)
  | [], vs, _, h => by rw [show vs = _ from h]; exact .nil
  | d :: r, vs, c, ⟨v, vr, e, h1, h2⟩ => by
    subst e
    have c' : (toP d).canLay0 = true ∧ PyData.canLayAll0 (toPs r) = true := by simpa [toPs, PyData.canLayAll0] using c
    exact .cons (Vw.dp K d v c'.1 h1) (VwL.dp K r vr c'.2 h2)
end
theorem Vw.shp (K : PySem.W.Frag) {d : D} {v : V} (s : shp d = true) (h : Vw C H d v) : Dp K H v (toP d) := Vw.dp K d v (SeqAt.canLay_of_shaped s) h
theorem toPs_any : ∀ (xs : List D) (d : D), (toPs xs).any (fun z => PyData.eqv z (toP d)) = memD d xs
  | [], _ => rfl
  | x :: r, d => by
    show (PyData.eqv (toP x) (toP d) || (toPs r).any fun z => PyData.eqv z (toP d)) = (eqD x d || memD d r)
    rw [toPs_any r d]
    rfl
theorem Vw.flat {d : D} {v : V} (f : flatD d = true) (h : Vw C H d v) : flatV v = true := by
  cases d with
  | non => rw [show v = _ from h]; rfl
  | bl b => rw [show v = _ from h]; rfl
  | int b => rw [show v = _ from h]; rfl
  | str b => rw [show v = _ from h]; rfl
  | _ => simp [flatD] at f
theorem Vw.eqV {d e : D} {v u : V} (f : flatD d = true) (f' : flatD e = true) (h : Vw C H d v) (h' : Vw C H e u) : L2.eqV v u = eqD d e := by
  cases d with
  | non =>
    rw [show v = _ from h]
    cases e with
    | non => rw [show u = _ from h']; rfl
    | bl b => rw [show u = _ from h']; rfl
    | int b => rw [show u = _ from h']; rfl
    | str b => rw [show u = _ from h']; rfl
    | _ => simp [flatD] at f'
  | bl b =>
    rw [show v = _ from h]
    cases e with
    | non => rw [show u = _ from h']; rfl
    | bl b => rw [show u = _ from h']; rfl
    | int b => rw [show u = _ from h']; rfl
    | str b => rw [show u = _ from h']; rfl
    | _ => simp [flatD] at f'
  | int b =>
    rw [show v = _ from h]
    cases e with
    | non => rw [show u = _ from h']; rfl
    | bl b => rw [show u = _ from h']; rfl
    | int b => rw [show u = _ from h']; rfl
    | str b => rw [show u = _ from h']; rfl
    | _ => simp [flatD] at f'
  | str b =>
    rw [show v = _ from h]
    cases e with
    | non => rw [show u = _ from h']; rfl
    | bl b => rw [show u = _ from h']; rfl
    | int b => rw [show u = _ from h']; rfl
    | str b => rw [show u = _ from h']; rfl
    | _ => simp [flatD] at f'
  | _ => simp [flatD] at f
theorem VwL.flat : ∀ {ds : List D} {vs : List V}, ds.all flatD = true → VwL C H ds vs → vs.all flatV = true
  | [], _, _, h => by rw [show _ = [] from h]; rfl
  | d :: r, _, f, ⟨v, vr, e, h1, h2⟩ => by
    subst e
    rw [List.all_cons, Bool.and_eq_true] at f
    rw [List.all_cons, h1.flat f.1, VwL.flat f.2 h2]
    rfl
theorem VwL.inV {d : D} {v : V} (f : flatD d = true) (h : Vw C H d v) : ∀ {ds : List D} {vs : List V}, ds.all flatD = true → VwL C H ds vs → L2.inV v vs = memD d ds
  | [], _, _, h' => by rw [show _ = [] from h']; rfl
  | e :: r, _, f', ⟨u, ur, q, h1, h2⟩ => by
    subst q
    rw [List.all_cons, Bool.and_eq_true] at f'
    have ih := VwL.inV f h f'.2 h2
    show (L2.eqV u v || L2.inV v ur) = (eqD e d || memD d r)
    rw [ih, Vw.eqV f'.1 f h1 h]
end

/-! ### outcomes -/
section
variable (C : Nat → Addr) (W : WX)
/-- an expression's outcome r, from w and H: what is wanted behind it holds -/
def FinE (n : Nat) (r : R (D × Md)) (e : Bool) (w : Wh) (H : Hp) (σ : L2.St) (Q : VK) : Prop := match r with
  | .ok x ρ' => ∀ v w' H', Evo n w H w' H' → Ok C w' H' ρ' σ → Rep C w' H' x.1 x.2 (.t n) v → (e = false → Same H H') → Q v H'
  | .exc c fs ρ' => ∀ dx fv w' H', Evo n w H w' H' → Ok C w' H' ρ' σ → H' dx = some (.xd fv) → RepF C w' H' fs .fz (.t n) fv → W (.ref (C c)) (some dx) σ H'
  | .bad => False
/-- .. of something of another kind, that says itself how it lies -/
def FinG {α β : Type} (n : Nat) (r : R α) (e : Bool) (w : Wh) (H : Hp) (σ : L2.St) (L : α → β → Wh → Hp → Prop) (Q : β → Hp → Prop) : Prop := match r with
  | .ok x ρ' => ∀ v w' H', Evo n w H w' H' → Ok C w' H' ρ' σ → L x v w' H' → (e = false → Same H H') → Q v H'
  | .exc c fs ρ' => ∀ dx fv w' H', Evo n w H w' H' → Ok C w' H' ρ' σ → H' dx = some (.xd fv) → RepF C w' H' fs .fz (.t n) fv → W (.ref (C c)) (some dx) σ H'
  | .bad => False
end
section
variable {C : Nat → Addr} {W : WX} {n : Nat} {w w' : Wh} {H H' : Hp} {σ : L2.St}
theorem FinG.evo {α β : Type} {r : R α} {e : Bool} {L : α → β → Wh → Hp → Prop} {Q : β → Hp → Prop} (ev : Evo n w H w' H') (s : e = false → Same H H') (f : FinG C W n r e w H σ L Q) : FinG C W n r e w' H' σ L Q := by
  cases r with
  | ok x ρ' => exact fun v w2 H2 e2 k l s2 => f v w2 H2 (ev.trans e2) k l fun z => (s z).trans (s2 z)
  | exc c fs ρ' => exact fun dx fv w2 H2 e2 k h r => f dx fv w2 H2 (ev.trans e2) k h r
  | bad => exact f
theorem FinG.fin {r : R (D × Md)} {e : Bool} {Q : VK} : FinG C W n r e w H σ (fun x v w' H' => Rep C w' H' x.1 x.2 (.t n) v) Q = FinE C W n r e w H σ Q := by
  cases r <;> rfl
theorem FinE.evo {r : R (D × Md)} {e : Bool} {Q : VK} (ev : Evo n w H w' H') (s : e = false → Same H H') (f : FinE C W n r e w H σ Q) : FinE C W n r e w' H' σ Q := by
  rw [← FinG.fin] at f ⊢
  exact f.evo ev s
/-- from an inner outcome to what stands behind it: e' is the inner's effect, e the whole's; the inner stands higher -/
theorem FinG.bind {α α' β β' : Type} {n' : Nat} {x : R α} {f : α → En → R α'} {e e' : Bool} {L : α → β → Wh → Hp → Prop} {L' : α' → β' → Wh → Hp → Prop} {Q : β → Hp → Prop} {Q' : β' → Hp → Prop}
    (h : FinG C W n (x.bind f) e w H σ L' Q')
    (he : e = false → e' = false)
    (k : ∀ a ρ' v w' H', x = .ok a ρ' → Evo n' w H w' H' → Ok C w' H' ρ' σ → L a v w' H' → (e' = false → Same H H') → FinG C W n (f a ρ') e w' H' σ L' Q' → Q v H') (hn : n ≤ n' := by first | exact Nat.le_refl _ | omega) : FinG C W n' x e' w H σ L Q := by
  cases x with
  | ok a ρ' => exact fun v w' H' ev kk l s => k a ρ' v w' H' rfl ev kk l s (FinG.evo (ev.weak hn) (fun z => s (he z)) h)
  | exc c fs ρ' => exact fun dx fv w' H' ev kk l r => h dx fv w' H' (ev.weak hn) kk l r.fzId
  | bad => exact h
end
end VS

set_option Elab.async false
set_option linter.all false
set_option maxRecDepth 100000
/-! VD: operands; operators and built-ins by values. -/
namespace VS
open PySem PySem.Spec PyProof.Rows L2

theorem PE.imp {X : Cx} {e : Expr} {t t' : TE} (h : PE X e t) (k : ∀ σ H Q, t' σ H Q → t σ H Q) : PE X e t' := ⟨fun pins s σ H Q I q => h.run pins s σ H Q I (k σ H Q q)⟩
theorem PT.imp {X : Cx} {e : Expr} {t t' : TT} (h : PT X e t) (k : ∀ σ H Q, t' σ H Q → t σ H Q) : PT X e t' := ⟨fun pins s σ H Q I q => h.run pins s σ H Q I (k σ H Q q)⟩
theorem PA.imp {X : Cx} {e : List Expr} {t t' : TA} (h : PA X e t) (k : ∀ σ H Q, t' σ H Q → t σ H Q) : PA X e t' := ⟨fun pos pins s σ H Q I q => h.run pos pins s σ H Q I (k σ H Q q)⟩
theorem PS.imp {X : Cx} {e : Stmt} {t t' : TS} (h : PS X e t) (k : ∀ D σ H, t' D σ H → t D σ H) : PS X e t' := ⟨fun pins s σ H D I q => h.run pins s σ H D I (k D σ H q)⟩
theorem PSs.imp {X : Cx} {e : List Stmt} {t t' : TS} (h : PSs X e t) (k : ∀ D σ H, t' D σ H → t D σ H) : PSs X e t' := ⟨fun pins s σ H D I q => h.run pins s σ H D I (k D σ H q)⟩

section
variable (P : Pg) (Γ : Ga) (C : Nat → Addr) (W : WX)
def tE (n : Nat) (c : Ex) : TE := fun σ H Q => ∃ w ρ, Ok C w H ρ σ ∧ FinE C W n (ev P Γ c ρ) (eff P c) w H σ Q
def LkV (n : Nat) (c : Ex) : D → V → Wh → Hp → Prop := fun x v w H => Vw C H x v ∧ (isVar c = false → ∃ m, Rep C w H x m (.t n) v)
def CpV (n : Nat) (c : Ex) : D → V → Wh → Hp → Prop := fun x v w H => Cp C w H x v ∧ (isVar c = false → Rep C w H x .fz (.t n) v)
def tLk (n : Nat) (c : Ex) : TE := fun σ H Q => ∃ w ρ, Ok C w H ρ σ ∧ FinG C W n (look c (ev P Γ c ρ) ρ) (eff P c) w H σ (LkV C n c) Q
def tCp (n : Nat) (c : Ex) : TE := fun σ H Q => ∃ w ρ, Ok C w H ρ σ ∧ FinG C W n (cpy c (ev P Γ c ρ) ρ) (eff P c) w H σ (CpV C n c) Q
end
section
variable {P : Pg} {Γ : Ga} {C : Nat → Addr} {W : WX} {X : Cx} {n : Nat} {e : Expr} {c : Ex} {w : Wh} {H : Hp} {ρ : En} {σ : L2.St}
theorem slot_some {i : Nat} {d : D} {m : Md} (h : slot ρ i = some (d, m)) : ρ[i]? = some (some (d, m)) := by
  unfold slot at h
  cases q : ρ[i]? with
  | none => rw [q] at h; cases h
  | some o => rw [q] at h; cases o with
    | none => cases h
    | some x => cases h; rfl
theorem FinG.ok {α β : Type} {x : α} {e : Bool} {L : α → β → Wh → Hp → Prop} {Q : β → Hp → Prop} {v : β} (k : Ok C w H ρ σ) (l : L x v w H) (h : FinG C W n (.ok x ρ) e w H σ L Q) : Q v H :=
  h v w H .refl k l fun _ => .refl H
theorem Rep.any {d : D} {m m' : Md} {i i' : Id} {v : V} (p : VS.imm d = true) (r : Rep C w H d m i v) : Rep C w H d m' i' v := Rep.imm d m m' v p r
/-- a name's reading gives all three -/
theorem var_run {i : Nat} {Q : VK} {d : D} {m : Md} (k : Ok C w H ρ σ) (h : slot ρ i = some (d, m)) (q : ∀ v, Rep C w H d m (.s i) v → Q v H) : tVar i σ H Q := by
  obtain ⟨v, h1, h2⟩ := k.rep i d m (slot_some h)
  exact ⟨v, h1, q v h2⟩
theorem PE.rdVar {i : Nat} (h : PE X e (tVar i)) : PE X e (tE P Γ C W n (.var i)) := by
  refine PE.imp h fun σ H Q ⟨w, ρ, k, f⟩ => ?_
  have f : FinE C W n (VS.rdVar i ρ) false w H σ Q := f
  unfold VS.rdVar at f
  cases q : slot ρ i with
  | none => rw [q] at f; exact f.elim
  | some x =>
    obtain ⟨d, m⟩ := x
    rw [q] at f
    dsimp only at f
    refine var_run k q fun v r => ?_
    cases hi : imm d with
    | true =>
      rw [hi, if_pos rfl] at f
      exact f v w H .refl k (r.any hi) fun _ => .refl H
    | false =>
      rw [hi, if_neg Bool.false_ne_true] at f
      exact f v (frz (isS i) w) H (Evo.frz fun j _ => rfl) (k.share (slot_some q)) (r.frzIn (by simp [isS])) fun _ => .refl H
theorem PE.mvVar {i : Nat} (h : PE X e (tVar i)) : PE X e (tE P Γ C W n (.mv i)) := by
  refine PE.imp h fun σ H Q ⟨w, ρ, k, f⟩ => ?_
  have f : FinE C W n (VS.mvVar i ρ) false w H σ Q := f
  unfold VS.mvVar at f
  cases q : slot ρ i with
  | none => rw [q] at f; exact f.elim
  | some x =>
    obtain ⟨d, m⟩ := x
    rw [q] at f
    dsimp only at f
    refine var_run k q fun v r => ?_
    cases hi : imm d with
    | true =>
      rw [hi, if_pos rfl] at f
      exact f v w H .refl k (r.any hi) fun _ => .refl H
    | false =>
      rw [hi, if_neg Bool.false_ne_true] at f
      refine f v (mov (.s i) (.t n) w) H (Evo.mov fun l z => by cases z) ⟨by rw [List.length_set]; exact k.len, fun j d' m' e' => ?_, fun a h => mov_no (k.nn a h), fun a vs h => (k.tp a vs h).imp mov_no mov_fz⟩ r.mov fun _ => .refl H
      by_cases hj : i = j
      · subst hj
        have hl : i < ρ.length := (List.getElem?_eq_some_iff.mp (slot_some q)).1
        rw [List.getElem?_set_self hl] at e'; cases e'
      · rw [List.getElem?_set_ne hj] at e'
        obtain ⟨u, h1, h2⟩ := k.rep j d' m' e'
        exact ⟨u, h1, h2.movOut (by intro z; exact hj (by cases z; rfl))⟩
theorem look_nv {x : R (D × Md)} (h : isVar c = false) : look c x ρ = x.bind fun dm ρ => .ok dm.1 ρ := by
  cases c <;> first | rfl | (simp [isVar] at h)
theorem cpy_nv {x : R (D × Md)} (h : isVar c = false) : cpy c x ρ = x.bind fun dm ρ => .ok dm.1 ρ := by
  cases c <;> first | rfl | (simp [isVar] at h)
/-- an operand that is looked at -/
theorem PE.look (h : PE X e (tE P Γ C W n c)) (hv : ∀ i, c = .var i → PE X e (tVar i)) : PE X e (tLk P Γ C W n c) := by
  cases hc : isVar c with
  | true =>
    obtain ⟨i, rfl⟩ : ∃ i, c = .var i := by cases c <;> first | exact ⟨_, rfl⟩ | (simp [isVar] at hc)
    refine PE.imp (hv i rfl) fun σ H Q ⟨w, ρ, k, f⟩ => ?_
    have f : FinG C W n ((R.opt (slot ρ i) ρ).bind fun dm ρ => .ok dm.1 ρ) false w H σ (LkV C n (.var i)) Q := f
    cases q : slot ρ i with
    | none => rw [q] at f; exact f.elim
    | some x =>
      obtain ⟨d, m⟩ := x
      rw [q] at f
      exact var_run k q fun v r => f v w H .refl k ⟨r.vw, fun z => by simp [isVar] at z⟩ fun _ => .refl H
  | false =>
    refine PE.imp h fun σ H Q ⟨w, ρ, k, f⟩ => ⟨w, ρ, k, ?_⟩
    rw [look_nv hc] at f
    rw [← FinG.fin]
    refine FinG.bind f (fun z => z) fun a ρ' v w' H' _ _ k' r s' f' => ?_
    exact FinG.ok k' ⟨Rep.vw _ _ _ r, fun _ => ⟨_, r⟩⟩ f'
/-- an operand whose items are taken -/
theorem PE.cpy (h : PE X e (tE P Γ C W n c)) (hv : ∀ i, c = .var i → PE X e (tVar i)) : PE X e (tCp P Γ C W n c) := by
  cases hc : isVar c with
  | true =>
    obtain ⟨i, rfl⟩ : ∃ i, c = .var i := by cases c <;> first | exact ⟨_, rfl⟩ | (simp [isVar] at hc)
    refine PE.imp (hv i rfl) fun σ H Q ⟨w, ρ, k, f⟩ => ?_
    have f : FinG C W n (VS.cpy (.var i) (ev P Γ (.var i) ρ) ρ) false w H σ (CpV C n (.var i)) Q := f
    unfold VS.cpy at f
    have nv : ∀ {x v w H}, Cp C w H x v → CpV C n (.var i) x v w H := fun r => ⟨r, fun z => by simp [isVar] at z⟩
    cases q : slot ρ i with
    | none => simp only [q] at f; exact f.elim
    | some x =>
      obtain ⟨d, m⟩ := x
      simp only [q] at f
      refine var_run k q fun v r => ?_
      cases m with
      | fz => exact f v w H .refl k (nv (r.cp (.inl rfl))) fun _ => .refl H
      | rt => exact f v w H .refl k (nv (r.cp (.inr rfl))) fun _ => .refl H
      | sb => exact f.elim
      | dp =>
        dsimp only at f
        cases hk : kids d with
        | true =>
          rw [hk, if_pos rfl] at f
          exact f v w H .refl k (nv (r.cpKids hk)) fun _ => .refl H
        | false =>
          rw [hk, if_neg Bool.false_ne_true] at f
          exact f v (frzS (isS i) w) H (Evo.frzS fun j _ => rfl) (k.flat (slot_some q)) (nv ((r.frzSIn (by simp [isS])).cp (.inr rfl))) fun _ => .refl H
  | false =>
    refine PE.imp h fun σ H Q ⟨w, ρ, k, f⟩ => ⟨w, ρ, k, ?_⟩
    rw [cpy_nv hc] at f
    rw [← FinG.fin]
    refine FinG.bind f (fun z => z) fun a ρ' v w' H' _ _ k' r s' f' => ?_
    have r2 : Rep C (frz (geT n) w') H' a.1 .fz (.t n) v := Rep.frzIn (by simp [geT]) r
    exact f' v (frz (geT n) w') H' (Evo.frz fun j hj => by simp [geT]; omega) (k'.frzT fun i => rfl) ⟨r2.cp (.inl rfl), fun _ => r2⟩ fun _ => .refl H'
end

/-! ### results -/
open Classical in
/-- foreign tuples shared, too -/
noncomputable def fzT (w : Wh) (H : Hp) : Wh := fun a => if w a = .no ∧ ∃ vs, H a = some (.tup vs) then .fz else w a
theorem fzT_tup {w : Wh} {H : Hp} {a : Addr} {vs : List V} (h : H a = some (.tup vs)) (t : w a = .no ∨ w a = .fz) : fzT w H a = .fz := by
  unfold fzT
  rcases t with t | t
  · rw [if_pos ⟨t, vs, h⟩]
  · rw [if_neg (by rw [t]; intro z; cases z.1), t]
theorem fzT_own {w : Wh} {H : Hp} {a : Addr} (h : w a ≠ .no) : fzT w H a = w a := by
  unfold fzT
  rw [if_neg fun z => h z.1]
theorem Evo.fzT {n : Nat} {w : Wh} {H : Hp} : Evo n w H (VS.fzT w H) H where
  kH := fun _ _ h _ => h
  kW := fun a o h hd => by
    unfold VS.fzT
    split
    · rename_i z
      obtain ⟨z1, vs, z2⟩ := z
      rw [h] at z2
      exact .inr ⟨z1, rfl, vs, Option.some.inj z2⟩
    · exact .inl rfl
  al := fun _ h => h
theorem Ok.fzT {C : Nat → Addr} {w : Wh} {H : Hp} {ρ : En} {σ : L2.St} (k : Ok C w H ρ σ) : Ok C (VS.fzT w H) H ρ σ :=
  ⟨k.len, fun i d m e => by
    obtain ⟨v, h1, h2⟩ := k.rep i d m e
    have key : ∀ m : Md, Keeps w (VS.fzT w H) H H m m (.s i) (.s i) := fun m => .id (fun a o e q => ⟨fzT_own (own_no q), e⟩) fun a o e q => ⟨by rw [fzT_own (by rw [q]; intro z; cases z), q], e⟩
    exact ⟨v, h1, Rep.map d m m v (key m) (key _) h2⟩, fun a h => by
    have := k.nn a h
    unfold VS.fzT
    rw [if_neg (by rintro ⟨_, vs, z⟩; rw [h] at z; cases z), this], fun a vs h => .inr (fzT_tup h (k.tp a vs h))⟩
/-- what a new value is worth: a plain one, or a new list of shared items -/
structure Cont (C : Nat → Addr) (w : Wh) (H : Hp) (r : D × Md) (Q : VK) : Prop where
  tp : ∀ a vs, H a = some (.tup vs) → w a = .no ∨ w a = .fz
  pr : ∀ v, prim r.1 = true → Vw C H r.1 v → Q v H
  ls : ∀ zs, r.1 = .lst zs → ∀ p us, H p = none → RepL C w H zs .fz (.s 0) us → Q (.ref p) (upd H p (.lst us))
  lf : ∀ zs, r.1 = .lst zs → ∀ p us, H p = none → RepL C (fzT w H) H zs .fz (.s 0) us → Q (.ref p) (upd H p (.lst us))
/-- a new list's mode fits its items -/
def Fit (r : D × Md) : Prop := ∀ zs, r.1 = .lst zs → r.2 = .rt ∨ (r.2 = .dp ∧ immL zs = true)
theorem fit_lstM (zs : List D) : Fit (lstM zs) := fun ys e => by
  have e' : zs = ys := D.lst.inj e
  subst e'
  unfold lstM
  cases h : immL zs with
  | true => exact .inr ⟨by simp, rfl⟩
  | false => exact .inl (by simp)
theorem fit_prim {d : D} {m : Md} (p : prim d = true) : Fit (d, m) := fun zs e => by
  have e' : d = .lst zs := e
  rw [e'] at p
  cases p
section
variable {C : Nat → Addr} {w : Wh} {H : Hp} {ρ : En} {σ : L2.St} {n : Nat} {W : WX}
theorem prim_rep {d : D} {v : V} {m : Md} {i : Id} (p : prim d = true) (h : Vw C H d v) : Rep C w H d m i v := by
  cases d with
  | non => exact h
  | bl b => exact h
  | int b => exact h
  | str b => exact h
  | _ => simp [prim] at p
/-- a list laid anew, its items shared -/
theorem newL {zs : List D} {us : List V} {p : Addr} {m : Md} (hp : H p = none) (r : RepL C w H zs .fz (.s 0) us) (hm : m = .rt ∨ (m = .dp ∧ immL zs = true)) :
    Rep C (own1 w p (.rt (.t n))) (upd H p (.lst us)) (.lst zs) m (.t n) (.ref p) := by
  refine ⟨p, us, rfl, ?_, .inl upd_same, ?_⟩
  · rw [own1_same]
    rcases hm with e | ⟨e, _⟩ <;> subst e <;> rfl
  · have r2 := r.new (ow := .rt (.t n)) (o := .lst us) hp
    rcases hm with e | ⟨e, hi⟩ <;> subst e
    · exact r2.fzId
    · exact RepL.imm zs _ _ us hi r2
theorem Cont.of {r : D × Md} {e : Bool} {Q : VK} (k : Ok C w H ρ σ) (hr : Fit r) (f : FinE C W n (.ok r ρ) e w H σ Q) : Cont C w H r Q where
  tp := k.tp
  pr := fun v p h => f v w H .refl k (prim_rep p h) fun _ => .refl H
  ls := fun zs ez p us hp h => by
    obtain ⟨d, m⟩ := r
    have ez' : d = .lst zs := ez
    subst ez'
    exact f (.ref p) (own1 w p (.rt (.t n))) (upd H p (.lst us)) (Evo.new hp) (k.new hp) (newL hp h (hr zs rfl)) fun _ => same_new hp
  lf := fun zs ez p us hp h => by
    obtain ⟨d, m⟩ := r
    have ez' : d = .lst zs := ez
    subst ez'
    exact f (.ref p) (own1 (fzT w H) p (.rt (.t n))) (upd H p (.lst us)) (Evo.fzT.trans (Evo.new hp)) (k.fzT.new hp) (newL hp h (hr zs rfl)) fun _ => same_new hp
theorem cont_int {i : Int} {m : Md} {Q : VK} (c : Cont C w H (.int i, m) Q) : Q (.int i) H := c.pr _ rfl rfl
theorem cont_bl {i : Bool} {m : Md} {Q : VK} (c : Cont C w H (.bl i, m) Q) : Q (.bl i) H := c.pr _ rfl rfl
theorem cont_str {i : Str} {m : Md} {Q : VK} (c : Cont C w H (.str i, m) Q) : Q (.str i) H := c.pr _ rfl rfl
end

/-! ### operators -/
section
variable {X : Cx} {pins : List (Addr × Obj)} {σ : L2.St} {H : Hp} {s : Shared} {l : Addr} {xs : List V}
theorem lstR (I : Inv X pins σ H s) (hH : Rd H l (.lst xs)) : xs.length ≤ sizeLine ∧ ∃ (its : List Value) (n : Nat), Vals xs its ∧ xs.length = its.length ∧ s.heap.get? l = some { cls := .type "list", data := .seq its.toArray n } := by
  obtain ⟨z, its, n, r, e⟩ := hH.ok I.hok
  exact ⟨z, its, n, r, r.length, e⟩
def rCatR : R2 := fun x y H Q => ∃ l b xs zs, x = .ref l ∧ y = .ref b ∧ Rd H l (.lst xs) ∧ Rd H b (.lst zs) ∧ xs.length + zs.length ≤ sizeLine ∧ ∀ p, H p = none → Q (.ref p) (upd H p (.lst (xs ++ zs)))
theorem op_catR : OpR X (binaryOp .Add) rCatR := by
  intro pins s σ H x y v u Q I rx ry h
  obtain ⟨l, b, xs, zs, rfl, rfl, hH, hB, hz, q⟩ := h
  cases rx
  cases ry
  obtain ⟨z, its, n, r, hl, e⟩ := lstR I hH
  obtain ⟨z2, its2, n2, r2, hl2, e2⟩ := lstR I hB
  refine PySem.P.add_list e e2 ?_ (by rw [List.size_toArray, List.size_toArray]; omega)
  have ea : its.toArray ++ its2.toArray = (its ++ its2).toArray := by simp
  rw [ea]
  exact ⟨.ref _, _, I.lnew (t' := s.toks) (r.append r2) (by rw [List.length_append]; omega), rfl, q _ I.fresh⟩
def rRepR : R2 := fun x y H Q => ∃ l k xs, x = .ref l ∧ y = .int k ∧ Rd H l (.lst xs) ∧ -(2 ^ 63) ≤ k ∧ k < 2 ^ 63 ∧ xs.length * k.toNat ≤ sizeLine ∧
  ∀ p, H p = none → Q (.ref p) (upd H p (.lst (List.replicate k.toNat xs).flatten))
/-- op_rep's reading asks no more of the list than that it is read -/
theorem op_repR : OpR X (binaryOp .Mult) rRepR := by
  intro pins s σ H x y v u Q I rx ry h
  obtain ⟨l, k, xs, rfl, rfl, hH, h1, h2, hz, q⟩ := h
  cases rx
  obtain ⟨t, rfl⟩ := ry
  obtain ⟨z, its, n, r, hl, e⟩ := lstR I hH
  have hlen : its.toArray.size * k.toNat ≤ sizeLine := by rw [List.size_toArray, ← hl]; exact hz
  have hcap : ¬ its.toArray.size * k.toNat > (2 ^ 63 - 1) / 8 := by
    have : (sizeLine : Nat) ≤ (2 ^ 63 - 1) / 8 := by decide
    omega
  have hfit : ¬ (!Builtin.List.listFitsIndex k) = true := by
    rw [fitsIndex_both h1 h2]
    exact Bool.false_ne_true
  have hlong : ¬ Builtin.List.listTooLong (its.toArray.size * k.toNat) = true := by
    rw [notLongL hlen]
    exact Bool.false_ne_true
  have hnew : List.foldl (fun x1 x2 => x1 ++ x2) #[] (List.replicate (if its.toArray.isEmpty = true then 0 else k.toNat) its.toArray) = (List.replicate k.toNat its).flatten.toArray := by
    have f0 : ∀ m : Nat, List.foldl (fun x1 x2 => x1 ++ x2) #[] (List.replicate m its.toArray) = (List.replicate m its).flatten.toArray := fun m => by
      have := foldl_rep its m []
      rw [List.nil_append] at this
      exact this
    rw [f0]
    cases its with
    | nil => simp
    | cons a r' => rw [if_neg (by simp)]
  refine wpAny_binaryOp_repeat_ref (T := "list") (U := "int") (by decide) ⟨_, e, rfl⟩ (fun s' => typeIs_int s' k t) noFill_list_mul F.fills_int_mul F.slot_int_rmul repeat_list F.slot_int_index.lookup
    (call_meets F.slot_int_rmul (typeIs_int s k t) F.entry_int_rmul (F.args_int_rmul_2 _ _) (int___rmul___int_list k t l its.toArray n)
      ⟨e, rfl, ⟨_, e, rfl⟩, call_meets F.slot_list_mul ⟨_, e, rfl⟩ F.entry_list_mul (F.args_list_mul_2 _ _) (AutoListH.list___mul___list_int_3 l its.toArray n k t hfit hcap hlong) ⟨e, ?_⟩⟩)
  rw [hnew]
  exact ⟨.ref _, _, I.lnew (t' := s.toks) (r.rep k.toNat) (by rw [PyProof.Rows.lm_len_rep_flat, Nat.mul_comm]; exact hz), rfl, q _ I.fresh⟩

def bopO : Bop → Operator
  | .add => .Add | .sub => .Sub | .mul => .Mult | .fdiv => .FloorDiv | .mod => .Mod | .pow => .Pow
def rBin (b : Bop) : R2 := fun x y H Q => ∃ C w dx dy r, Cp C w H dx x ∧ Cp C w H dy y ∧ binD b dx dy = some r ∧ Cont C w H r Q
theorem guard_some {α : Type} {c : Bool} {a r : α} (h : (if c = true then some a else none) = some r) : c = true ∧ a = r := by
  cases c with
  | true => exact ⟨rfl, Option.some.inj h⟩
  | false => cases h
theorem op_bin (b : Bop) : OpR X (binaryOp (bopO b)) (rBin b) := by
  intro pins s σ H x y v u Q I rx ry h
  obtain ⟨C, w, dx, dy, r, h1, h2, hb, c⟩ := h
  cases b with
  | add =>
    have hb : addD dx dy = some r := hb
    unfold addD at hb
    split at hb
    · cases hb
      exact op_add pins s σ H x y v u Q I rx ry ⟨_, _, h1, h2, cont_int c⟩
    · rename_i xs ys
      obtain ⟨hz, e⟩ := guard_some hb
      subst e
      obtain ⟨a, vs, e1, hH, r1⟩ := h1
      obtain ⟨a', vs', e1', hH', r1'⟩ := h2
      exact op_catR pins s σ H x y v u Q I rx ry ⟨a, a', vs, vs', e1, e1', hH, hH', by rw [r1.length, r1'.length]; exact of_decide_eq_true hz, fun p hp => c.ls _ rfl p _ hp (r1.append r1')⟩
    · rename_i z z'
      obtain ⟨hz, e⟩ := guard_some hb
      subst e
      exact op_add_str pins s σ H x y v u Q I rx ry ⟨_, _, h1, h2, of_decide_eq_true hz, cont_str c⟩
    · cases hb
  | sub =>
    have hb : subD dx dy = some r := hb
    unfold subD at hb
    split at hb
    · cases hb
      exact op_sub pins s σ H x y v u Q I rx ry ⟨_, _, h1, h2, cont_int c⟩
    · cases hb
  | mul =>
    have hb : mulD dx dy = some r := hb
    unfold mulD at hb
    split at hb
    · obtain ⟨hz, e⟩ := guard_some hb
      subst e
      refine op_mul pins s σ H x y v u Q I rx ry ⟨_, _, h1, h2, ?_, cont_int c⟩
      unfold small at hz
      simp only [Bool.or_eq_true, Bool.and_eq_true, decide_eq_true_eq] at hz
      exact hz
    · obtain ⟨hz, e⟩ := guard_some hb
      subst e
      simp only [Bool.and_eq_true, decide_eq_true_eq] at hz
      obtain ⟨a, vs, e1, hH, r1⟩ := h1
      exact op_repR pins s σ H x y v u Q I rx ry ⟨a, _, vs, e1, h2, hH, hz.1.1, hz.1.2, by rw [r1.length]; exact hz.2, fun p hp => c.ls _ rfl p _ hp (r1.rep _)⟩
    · cases hb
  | fdiv =>
    have hb : fdivD dx dy = some r := hb
    unfold fdivD at hb
    split at hb
    · obtain ⟨hz, e⟩ := guard_some hb
      subst e
      simp only [Bool.and_eq_true, decide_eq_true_eq] at hz
      exact op_fdiv pins s σ H x y v u Q I rx ry ⟨_, _, h1, h2, hz, cont_int c⟩
    · cases hb
  | mod =>
    have hb : modD dx dy = some r := hb
    unfold modD at hb
    split at hb
    · obtain ⟨hz, e⟩ := guard_some hb
      subst e
      exact op_mod pins s σ H x y v u Q I rx ry ⟨_, _, h1, h2, of_decide_eq_true hz, cont_int c⟩
    · cases hb
  | pow =>
    have hb : powD dx dy = some r := hb
    unfold powD at hb
    split at hb
    · obtain ⟨hz, e⟩ := guard_some hb
      subst e
      simp only [Bool.and_eq_true, decide_eq_true_eq] at hz
      exact op_pow pins s σ H x y v u Q I rx ry ⟨_, _, h1, h2, ⟨hz.1.1, hz.1.2, hz.2⟩, cont_int c⟩
    · cases hb
theorem binD_fit {b : Bop} {x y : D} {r : D × Md} (h : binD b x y = some r) : Fit r := by
  cases b <;> simp only [binD, addD, subD, mulD, fdivD, modD, powD] at h <;> (split at h <;> first | (cases h; done) | (cases h; exact fit_prim rfl) | (obtain ⟨_, e⟩ := guard_some h; subst e; first | exact fit_prim rfl | exact fit_lstM _))

/-! ### comparisons -/
def copO : Cop → CmpOp
  | .eq => .Eq | .ne => .NotEq | .lt => .Lt | .le => .LtE | .gt => .Gt | .ge => .GtE | .inn => .In | .nin => .NotIn
def rCmp (b : Cop) : R2 := fun x y H Q => ∃ C dx dy k, Vw C H dx x ∧ Vw C H dy y ∧ cmpD b dx dy = some k ∧ Q (.bl k) H
theorem valV_lookup {κ : Type} [DecidableEq κ] {C : Nat → Addr} {H : Hp} (VwX : List (κ × D) → List (κ × V) → Prop)
    (h0 : ∀ vs, VwX [] vs → vs = []) (h1 : ∀ f d r vs, VwX ((f, d) :: r) vs → ∃ v vr, vs = (f, v) :: vr ∧ VwX r vr) (k : κ) :
    ∀ (kvs : List (κ × D)) (vs : List (κ × V)), VwX kvs vs → (valV vs k).isSome = (lkK kvs k).isSome
  | [], vs, h => by rw [h0 vs h]; rfl
  | (f, d) :: r, vs, h => by
    obtain ⟨v, vr, e, h2⟩ := h1 f d r vs h
    subst e
    have ih := valV_lookup (C := C) (H := H) VwX h0 h1 k r vr h2
    by_cases q : f = k
    · rw [valV_pos (p := (f, v)) q]
      unfold lkK
      rw [if_pos q]
      rfl
    · rw [valV_neg (p := (f, v)) q, ih]
      show _ = (if f = k then some d else lkK r k).isSome
      rw [if_neg q]
theorem keyOf_V {C : Nat → Addr} {H : Hp} {d : D} {k : Key} {v : V} (e : keyOf d = some k) (h : Vw C H d v) : v = kV k := by
  cases d with
  | int i => cases e; exact h
  | str i => cases e; exact h
  | _ => simp [keyOf] at e
theorem keysOf_V {C : Nat → Addr} {H : Hp} : ∀ {ds : List D} {ks : List Key} {vs : List V}, keysOf ds = some ks → VwL C H ds vs → vs = ks.map kV
  | [], _, _, e, h => by cases e; exact h
  | d :: r, _, _, e, ⟨v, vr, q, h1, h2⟩ => by
    cases q1 : keyOf d with
    | none => simp [keysOf, q1] at e
    | some k =>
      cases q2 : keysOf r with
      | none => simp [keysOf, q1, q2] at e
      | some ks =>
        simp [keysOf, q1, q2] at e
        subst e
        subst q
        rw [keyOf_V q1 h1, keysOf_V q2 h2]
        rfl
/-- membership as the evaluator reckons it, read off the heap -/
theorem inn_get {C : Nat → Addr} {H : Hp} {x y : V} {dx dy : D} {k : Bool} (h1 : Vw C H dx x) (h2 : Vw C H dy y) (e : innD dx dy = some k) (hu : X.A.units + 65 < cLine) :
    (∃ d ds, Dp X.K H x d ∧ Dp X.K H y (.list ds) ∧ SeqAt.shaped d = true ∧ SeqAt.shaped (.list ds) = true ∧ (ds.any fun z => PyData.eqv z d) = k) ∨
    (∃ p vs, y = .ref p ∧ SqT X.K H p vs ∧ flatV x = true ∧ vs.all flatV = true ∧ L2.inV x vs = k) ∨ (∃ a o, y = .ref a ∧ DGet H a x o ∧ o.isSome = k) := by
  unfold innD at e
  split at e
  · rename_i xs
    obtain ⟨hz, e⟩ := guard_some e
    subst e
    rw [Bool.and_eq_true] at hz
    exact .inl ⟨toP dx, toPs xs, h1.shp X.K hz.1, Vw.shp (d := .lst xs) X.K hz.2 h2, hz.1, hz.2, toPs_any xs dx⟩
  · rename_i xs
    obtain ⟨hz, e⟩ := guard_some e
    subst e
    rw [Bool.and_eq_true] at hz
    obtain ⟨a, vs, q, hH, hr⟩ := h2
    exact .inr (.inl ⟨a, vs, q, .inl (.inl hH), h1.flat hz.1, hr.flat hz.2, VwL.inV hz.1 h1 hz.2 hr⟩)
  · rename_i kvs
    cases q : keyOf dx with
    | none => rw [q] at e; cases e
    | some kk =>
      rw [q] at e
      cases e
      obtain ⟨a, vs, q2, hH, hr⟩ := h2
      have ev := keyOf_V q h1
      subst ev
      refine .inr (.inr ⟨a, _, q2, DGet.k hH, valV_lookup (C := C) (H := H) (VwK C H) (fun vs h => h) (fun f d r vs h => ?_) kk kvs vs hr⟩)
      obtain ⟨v, vr, e, _, h2⟩ := h
      exact ⟨v, vr, e, h2⟩
  · rename_i ks kvs
    cases q : keysOf ks with
    | none => rw [q] at e; cases e
    | some kk =>
      rw [q] at e
      cases e
      obtain ⟨a, vs, q2, hH, hr⟩ := h2
      obtain ⟨b, us, q3, hB, hk⟩ := h1
      have ev := keysOf_V q hk
      subst ev
      subst q3
      refine .inr (.inr ⟨a, _, q2, DGet.t hH hB, valV_lookup (C := C) (H := H) (VwT C H) (fun vs h => h) (fun f d r vs h => ?_) kk kvs vs hr⟩)
      obtain ⟨v, vr, e, _, h2⟩ := h
      exact ⟨v, vr, e, h2⟩
  · cases e
theorem op_cmp (b : Cop) (hu : X.A.units + 65 < cLine) : OpR X (compareOp (copO b)) (rCmp b) := by
  intro pins s σ H x y v u Q I rx ry h
  obtain ⟨C, dx, dy, k, h1, h2, e, q⟩ := h
  have ltI : ∀ {f : Int → Int → Bool}, ltD f dx dy = some k → ∃ i j, x = .int i ∧ y = .int j ∧ f i j = k := fun {f} e => by
    unfold ltD at e
    split at e
    · cases e
      exact ⟨_, _, h1, h2, rfl⟩
    · cases e
  cases b with
  | eq =>
    obtain ⟨hz, e⟩ := guard_some e
    subst e
    rw [Bool.and_eq_true] at hz
    exact op_eqD (by omega) pins s σ H x y v u Q I rx ry ⟨_, _, h1.shp X.K hz.1, h2.shp X.K hz.2, hz.1, hz.2, q⟩
  | ne =>
    obtain ⟨hz, e⟩ := guard_some e
    subst e
    rw [Bool.and_eq_true] at hz
    exact op_neD (by omega) pins s σ H x y v u Q I rx ry ⟨_, _, h1.shp X.K hz.1, h2.shp X.K hz.2, hz.1, hz.2, q⟩
  | lt => obtain ⟨i, j, e1, e2, e3⟩ := ltI e; subst e3; exact op_lt pins s σ H x y v u Q I rx ry ⟨i, j, e1, e2, q⟩
  | le => obtain ⟨i, j, e1, e2, e3⟩ := ltI e; subst e3; exact op_le pins s σ H x y v u Q I rx ry ⟨i, j, e1, e2, q⟩
  | gt => obtain ⟨i, j, e1, e2, e3⟩ := ltI e; subst e3; exact op_gt pins s σ H x y v u Q I rx ry ⟨i, j, e1, e2, q⟩
  | ge => obtain ⟨i, j, e1, e2, e3⟩ := ltI e; subst e3; exact op_ge pins s σ H x y v u Q I rx ry ⟨i, j, e1, e2, q⟩
  | inn =>
    rcases inn_get h1 h2 e hu with ⟨d, ds, a1, a2, a3, a4, a5⟩ | ⟨p, vs, a1, a2, a3, a4, a5⟩ | ⟨a, o, a1, a2, a3⟩
    · exact op_inD hu pins s σ H x y v u Q I rx ry ⟨d, ds, a1, a2, a3, a4, by rw [a5]; exact q⟩
    · exact op_in_seq pins s σ H x y v u Q I rx ry ⟨p, vs, a1, .inr a2, a3, a4, by rw [a5]; exact q⟩
    · subst a1
      cases ry
      exact d_in (by omega) I a2 rx fun s' I' => ⟨.bl _, H, I', rfl, by rw [a3]; exact q⟩
  | nin =>
    obtain ⟨k', e', ek⟩ : ∃ k', innD dx dy = some k' ∧ (!k') = k := by
      cases z : innD dx dy with
      | none => simp [cmpD, z] at e
      | some k' => simp [cmpD, z] at e; exact ⟨k', rfl, e.symm ▸ by simp⟩
    subst ek
    rcases inn_get h1 h2 e' hu with ⟨d, ds, a1, a2, a3, a4, a5⟩ | ⟨p, vs, a1, a2, a3, a4, a5⟩ | ⟨a, o, a1, a2, a3⟩
    · exact op_notInD hu pins s σ H x y v u Q I rx ry ⟨d, ds, a1, a2, a3, a4, by rw [a5]; exact q⟩
    · exact op_notIn_seq pins s σ H x y v u Q I rx ry ⟨p, vs, a1, .inr a2, a3, a4, by rw [a5]; exact q⟩
    · subst a1
      cases ry
      exact d_notIn (by omega) I a2 rx fun s' I' => ⟨.bl _, H, I', rfl, by rw [a3]; exact q⟩
end
end VS

set_option Elab.async false
set_option linter.all false
set_option maxRecDepth 100000
/-! VE: two operands; argument lists; built-ins; what the syntax check asks. -/
namespace VS
open PySem PySem.Spec PyProof.Rows L2
section
variable {P : Pg} {Γ : Ga} {C : Nat → Addr} {W : WX} {X : Cx} {n : Nat} {a b : Ex} {w : Wh} {H : Hp} {ρ : En} {σ : L2.St}
/-- what was looked at first, behind the second -/
theorem LkV.keep {x : D} {v : V} {w' : Wh} {H' : Hp} (l : LkV C n a x v w H) (ev : Evo (n + 1) w H w' H') (s : eff P b = false → Same H H') (hk : keptL P a b x = true) : Vw C H' x v := by
  unfold keptL at hk
  simp only [Bool.or_eq_true, Bool.not_eq_true'] at hk
  rcases hk with (hk | hk) | hk
  · obtain ⟨m, r⟩ := l.2 hk
    exact Rep.vw _ _ _ (r.evo (Nat.lt_succ_self n) ev)
  · exact Vw.same (s hk) _ _ l.1
  · exact l.1.prim hk
theorem CpV.keep {x : D} {v : V} {w' : Wh} {H' : Hp} (l : CpV C n a x v w H) (ev : Evo (n + 1) w H w' H') (s : eff P b = false → Same H H') (hk : keptL P a b x = true) : Cp C w' H' x v := by
  unfold keptL at hk
  simp only [Bool.or_eq_true, Bool.not_eq_true'] at hk
  rcases hk with (hk | hk) | hk
  · exact ((l.2 hk).evo (Nat.lt_succ_self n) ev).cp (.inl rfl)
  · exact l.1.same ev (s hk)
  · exact l.1.prim hk
theorem if_bad {α : Type} {c : Bool} {x : R α} {β : Type} {e : Bool} {L : α → β → Wh → Hp → Prop} {Q : β → Hp → Prop} (h : FinG C W n (if c then x else .bad) e w H σ L Q) : c = true ∧ FinG C W n x e w H σ L Q := by
  cases c with
  | true => exact ⟨rfl, h⟩
  | false => exact h.elim
theorem two_lk {α β : Type} {K : D → D → En → R α} {e : Bool} {L : α → β → Wh → Hp → Prop} {Q : β → Hp → Prop} (k : Ok C w H ρ σ) (he : e = false → eff P a = false ∧ eff P b = false)
    (h : FinG C W n ((look a (ev P Γ a ρ) ρ).bind fun x ρ => (look b (ev P Γ b ρ) ρ).bind fun y ρ => if keptL P a b x then K x y ρ else .bad) e w H σ L Q) :
    tLk P Γ C W n a σ H fun v1 H1 => tLk P Γ C W (n + 1) b σ H1 fun v2 H2 => ∃ w2 ρ2 x y, Ok C w2 H2 ρ2 σ ∧ Vw C H2 x v1 ∧ Vw C H2 y v2 ∧ FinG C W n (K x y ρ2) e w2 H2 σ L Q := by
  refine ⟨w, ρ, k, FinG.bind h (fun z => (he z).1) fun x ρ1 v1 w1 H1 _ ev1 k1 l1 s1 f1 => ⟨w1, ρ1, k1, ?_⟩⟩
  refine FinG.bind (n' := n + 1) f1 (fun z => (he z).2) fun y ρ2 v2 w2 H2 _ ev2 k2 l2 s2 f2 => ?_
  obtain ⟨hk, f3⟩ := if_bad f2
  exact ⟨w2, ρ2, x, y, k2, l1.keep ev2 s2 hk, l2.1, f3⟩
theorem two_cp {α β : Type} {K : D → D → En → R α} {e : Bool} {L : α → β → Wh → Hp → Prop} {Q : β → Hp → Prop} (k : Ok C w H ρ σ) (he : e = false → eff P a = false ∧ eff P b = false)
    (h : FinG C W n ((cpy a (ev P Γ a ρ) ρ).bind fun x ρ => (cpy b (ev P Γ b ρ) ρ).bind fun y ρ => if keptL P a b x then K x y ρ else .bad) e w H σ L Q) :
    tCp P Γ C W n a σ H fun v1 H1 => tCp P Γ C W (n + 1) b σ H1 fun v2 H2 => ∃ w2 ρ2 x y, Ok C w2 H2 ρ2 σ ∧ Cp C w2 H2 x v1 ∧ Cp C w2 H2 y v2 ∧ FinG C W n (K x y ρ2) e w2 H2 σ L Q := by
  refine ⟨w, ρ, k, FinG.bind h (fun z => (he z).1) fun x ρ1 v1 w1 H1 _ ev1 k1 l1 s1 f1 => ⟨w1, ρ1, k1, ?_⟩⟩
  refine FinG.bind (n' := n + 1) f1 (fun z => (he z).2) fun y ρ2 v2 w2 H2 _ ev2 k2 l2 s2 f2 => ?_
  obtain ⟨hk, f3⟩ := if_bad f2
  exact ⟨w2, ρ2, x, y, k2, l1.keep ev2 s2 hk, l2.1, f3⟩
theorem two_cl {α β : Type} {K : D → D → En → R α} {e : Bool} {L : α → β → Wh → Hp → Prop} {Q : β → Hp → Prop} (k : Ok C w H ρ σ) (he : e = false → eff P a = false ∧ eff P b = false)
    (h : FinG C W n ((cpy a (ev P Γ a ρ) ρ).bind fun x ρ => (look b (ev P Γ b ρ) ρ).bind fun y ρ => if keptL P a b x then K x y ρ else .bad) e w H σ L Q) :
    tCp P Γ C W n a σ H fun v1 H1 => tLk P Γ C W (n + 1) b σ H1 fun v2 H2 => ∃ w2 ρ2 x y, Ok C w2 H2 ρ2 σ ∧ Cp C w2 H2 x v1 ∧ Vw C H2 y v2 ∧ FinG C W n (K x y ρ2) e w2 H2 σ L Q := by
  refine ⟨w, ρ, k, FinG.bind h (fun z => (he z).1) fun x ρ1 v1 w1 H1 _ ev1 k1 l1 s1 f1 => ⟨w1, ρ1, k1, ?_⟩⟩
  refine FinG.bind (n' := n + 1) f1 (fun z => (he z).2) fun y ρ2 v2 w2 H2 _ ev2 k2 l2 s2 f2 => ?_
  obtain ⟨hk, f3⟩ := if_bad f2
  exact ⟨w2, ρ2, x, y, k2, l1.keep ev2 s2 hk, l2.1, f3⟩
theorem FinG.opt {α α' β : Type} {x : Option α'} {f : α' → En → R α} {e : Bool} {L : α → β → Wh → Hp → Prop} {Q : β → Hp → Prop} (h : FinG C W n ((R.opt x ρ).bind f) e w H σ L Q) : ∃ z, x = some z ∧ FinG C W n (f z ρ) e w H σ L Q := by
  cases x with
  | none => exact h.elim
  | some z => exact ⟨z, rfl, h⟩
theorem FinG.opt0 {α β : Type} {x : Option α} {e : Bool} {L : α → β → Wh → Hp → Prop} {Q : β → Hp → Prop} (h : FinG C W n (R.opt x ρ) e w H σ L Q) : ∃ z, x = some z ∧ FinG C W n (.ok z ρ) e w H σ L Q := by
  cases x with
  | none => exact h.elim
  | some z => exact ⟨z, rfl, h⟩

/-! ### argument lists -/
/-- values under way from n on, one after the other -/
def RepA (C : Nat → Addr) (w : Wh) (H : Hp) : Nat → List (D × Md) → List V → Prop
  | _, [], vs => vs = []
  | n, x :: r, vs => ∃ v vr, vs = v :: vr ∧ Rep C w H x.1 x.2 (.t n) v ∧ RepA C w H (n + 1) r vr
theorem RepA.length : ∀ {xs : List (D × Md)} {n : Nat} {vs : List V}, RepA C w H n xs vs → vs.length = xs.length
  | [], _, _, h => by rw [show _ = [] from h]; rfl
  | x :: r, _, _, ⟨v, vr, e, _, h⟩ => by subst e; rw [List.length_cons, List.length_cons, RepA.length h]
def tAr (P : Pg) (Γ : Ga) (C : Nat → Addr) (W : WX) (n : Nat) (es : List Ex) : TA := fun σ H Q => ∃ w ρ, Ok C w H ρ σ ∧ FinG C W n (evL P Γ es ρ) (effL P es) w H σ (fun xs vs w' H' => RepA C w' H' n xs vs) Q
theorem or_ff {x y : Bool} (h : (x || y) = false) : x = false ∧ y = false := by
  cases x <;> cases y <;> first | exact ⟨rfl, rfl⟩ | cases h
theorem PA.nilV : PA X [] (tAr P Γ C W n []) := PA.imp pa_nil fun σ H Q ⟨w, ρ, k, f⟩ => f [] w H .refl k rfl fun _ => .refl H
theorem PA.consV {e : Expr} {es : List Expr} {c : Ex} {cs : List Ex} (h : PE X e (tE P Γ C W n c)) (hr : PA X es (tAr P Γ C W (n + 1) cs)) (hs : starEach (e :: es) X.env = (false, eval e X.env) :: starEach es X.env) : PA X (e :: es) (tAr P Γ C W n (c :: cs)) := by
  refine PA.imp (pa_cons h hr hs) fun σ H Q ⟨w, ρ, k, f⟩ => ?_
  have f : FinG C W n ((ev P Γ c ρ).bind fun x ρ => (evL P Γ cs ρ).bind fun xs ρ => .ok (x :: xs) ρ) (eff P c || effL P cs) w H σ (fun xs vs w' H' => RepA C w' H' n xs vs) Q := f
  refine ⟨w, ρ, k, ?_⟩
  rw [← FinG.fin]
  refine FinG.bind f (fun z => (or_ff z).1) fun x ρ1 v1 w1 H1 _ ev1 k1 r1 s1 f1 => ⟨w1, ρ1, k1, ?_⟩
  refine FinG.bind (n' := n + 1) f1 (fun z => (or_ff z).2) fun xs ρ2 vs w2 H2 _ ev2 k2 r2 s2 f2 => ?_
  exact FinG.ok k2 ⟨v1, vs, rfl, r1.evo (Nat.lt_succ_self n) ev2, r2⟩ f2
/-- .. all of them shared -/
theorem RepA.frz : ∀ {xs : List (D × Md)} {n k : Nat} {vs : List V}, n ≤ k → RepA C w H k xs vs → RepL C (VS.frz (geT n) w) H (xs.map (·.1)) .fz (.s 0) vs
  | [], _, _, _, _, h => h
  | x :: r, n, k, _, hk, ⟨v, vr, e, h1, h2⟩ => ⟨v, vr, e, Rep.frzIn (by simp [geT, hk]) h1, RepA.frz (Nat.le_succ_of_le hk) h2⟩
theorem RepA.sub : ∀ {xs : List (D × Md)} {n k : Nat} {vs : List V}, n ≤ k → (xs.all fun x => decide (x.2 = .dp)) = true → RepA C w H k xs vs → RepL C (VS.sub (geT n) (.t n) w) H (xs.map (·.1)) .sb (.t n) vs
  | [], _, _, _, _, _, h => h
  | x :: r, n, k, _, hk, ha, ⟨v, vr, e, h1, h2⟩ => by
    rw [List.all_cons, Bool.and_eq_true] at ha
    rw [of_decide_eq_true ha.1] at h1
    exact ⟨v, vr, e, Rep.subIn (by simp [geT, hk]) h1, RepA.sub (Nat.le_succ_of_le hk) ha.2 h2⟩
theorem geT_lt {n j : Nat} (h : j < n) : geT n (.t j) = false := by simp [geT]; omega
/-- a display of a list -/
theorem PE.lstV {es : List Expr} {cs : List Ex} {pos : Pos} (h : PA X es (tAr P Γ C W n cs)) : PE X (.List es pos) (tE P Γ C W n (.lst cs)) := by
  refine PE.imp (pe_lst h) fun σ H Q ⟨w, ρ, k, f⟩ => ⟨w, ρ, k, ?_⟩
  have f : FinE C W n ((evL P Γ cs ρ).bind fun xs ρ => if decide (xs.length ≤ sizeLine) then .ok (lstOf xs) ρ else .bad) (effL P cs) w H σ Q := f
  rw [← FinG.fin] at f
  refine FinG.bind f (fun z => z) fun xs ρ1 vs w1 H1 _ ev1 k1 r1 s1 f1 => ?_
  obtain ⟨hz, f2⟩ := if_bad f1
  refine ⟨by rw [r1.length]; exact of_decide_eq_true hz, fun p hp => ?_⟩
  cases ha : xs.all fun x => decide (x.2 = .dp) with
  | true =>
    have r2 := (RepA.sub (Nat.le_refl n) ha r1).new (ow := .rt (.t n)) (o := .lst vs) hp
    refine f2 (.ref p) (own1 (VS.sub (geT n) (.t n) w1) p (.rt (.t n))) _ ((Evo.sub fun j hj => geT_lt hj).trans (Evo.new hp)) ((k1.subT fun i => rfl).new hp) ?_ fun _ => same_new hp
    unfold lstOf
    rw [ha]
    exact ⟨p, vs, rfl, by rw [own1_same]; rfl, .inl upd_same, r2⟩
  | false =>
    have r2 := (RepA.frz (Nat.le_refl n) r1).new (ow := .rt (.t n)) (o := .lst vs) hp
    refine f2 (.ref p) (own1 (VS.frz (geT n) w1) p (.rt (.t n))) _ ((Evo.frz fun j hj => geT_lt hj).trans (Evo.new hp)) ((k1.frzT fun i => rfl).new hp) ?_ fun _ => same_new hp
    unfold lstOf
    rw [ha]
    exact ⟨p, vs, rfl, by rw [own1_same]; rfl, .inl upd_same, r2.fzId⟩
/-- a display of a tuple -/
theorem PE.tupV {es : List Expr} {cs : List Ex} {x1} {pos : Pos} (h : PA X es (tAr P Γ C W n cs)) : PE X (.Tuple es x1 pos) (tE P Γ C W n (.tup cs)) := by
  refine PE.imp (pe_tup h) fun σ H Q ⟨w, ρ, k, f⟩ => ⟨w, ρ, k, ?_⟩
  have f : FinE C W n ((evL P Γ cs ρ).bind fun xs ρ => if decide (xs.length ≤ sizeLine) then .ok (tupOf xs) ρ else .bad) (effL P cs) w H σ Q := f
  rw [← FinG.fin] at f
  refine FinG.bind f (fun z => z) fun xs ρ1 vs w1 H1 _ ev1 k1 r1 s1 f1 => ?_
  obtain ⟨hz, f2⟩ := if_bad f1
  refine ⟨by rw [r1.length]; exact of_decide_eq_true hz, fun p hp => ?_⟩
  cases ha : xs.all fun x => decide (x.2 = .dp) with
  | true =>
    have r2 := (RepA.sub (Nat.le_refl n) ha r1).new (ow := .fz) (o := .tup vs) hp
    refine f2 (.ref p) (own1 (VS.sub (geT n) (.t n) w1) p .fz) _ ((Evo.sub fun j hj => geT_lt hj).trans (Evo.new hp)) ((k1.subT fun i => rfl).new hp) ?_ fun _ => same_new hp
    unfold tupOf
    rw [ha]
    exact ⟨p, vs, rfl, by rw [own1_same], upd_same, r2⟩
  | false =>
    have r2 := (RepA.frz (Nat.le_refl n) r1).new (ow := .fz) (o := .tup vs) hp
    refine f2 (.ref p) (own1 (VS.frz (geT n) w1) p .fz) _ ((Evo.frz fun j hj => geT_lt hj).trans (Evo.new hp)) ((k1.frzT fun i => rfl).new hp) ?_ fun _ => same_new hp
    unfold tupOf
    rw [ha]
    exact ⟨p, vs, rfl, by rw [own1_same], upd_same, r2.fzId⟩

/-! ### a built-in's arguments -/
def Lk (c : Bool) (C : Nat → Addr) (w : Wh) (H : Hp) (d : D) (v : V) : Prop := Vw C H d v ∧ (c = true → Cp C w H d v)
def LkA (c : Bool) (C : Nat → Addr) (w : Wh) (H : Hp) : List D → List V → Prop
  | [], vs => vs = []
  | d :: r, vs => ∃ v vr, vs = v :: vr ∧ Lk c C w H d v ∧ LkA c C w H r vr
def tAl (P : Pg) (Γ : Ga) (C : Nat → Addr) (W : WX) (n : Nat) (c : Bool) (es : List Ex) : TA := fun σ H Q => ∃ w ρ, Ok C w H ρ σ ∧ FinG C W n (evLook P Γ c es ρ) (effL P es) w H σ (fun xs vs w' H' => LkA c C w' H' xs vs) Q
theorem PA.nilK {c : Bool} : PA X [] (tAl P Γ C W n c []) := PA.imp pa_nil fun σ H Q ⟨w, ρ, k, f⟩ => f [] w H .refl k rfl fun _ => .refl H
theorem PA.consK {e : Expr} {es : List Expr} {b : Bool} {c : Ex} {cs : List Ex} (h : PE X e (tE P Γ C W n c)) (hv : ∀ i, c = .var i → PE X e (tVar i)) (hr : PA X es (tAl P Γ C W (n + 1) b cs)) (hs : starEach (e :: es) X.env = (false, eval e X.env) :: starEach es X.env) : PA X (e :: es) (tAl P Γ C W n b (c :: cs)) := by
  have key : ∀ {x : D} {v : V} {w1 w2 : Wh} {H1 H2 : Hp}, (isVar c = false → ∃ m, Rep C w1 H1 x m (.t n) v ∧ (b = true → m = .fz)) → Lk b C w1 H1 x v → Evo (n + 1) w1 H1 w2 H2 → (effL P cs = false → Same H1 H2) → (isVar c && effL P cs && !prim x) = false → Lk b C w2 H2 x v := fun {x v w1 w2 H1 H2} hr l ev s hk => by
    cases hc : isVar c with
    | false =>
      obtain ⟨m, r, hm⟩ := hr hc
      have r2 := r.evo (Nat.lt_succ_self n) ev
      exact ⟨Rep.vw _ _ _ r2, fun z => r2.cp (.inl (hm z))⟩
    | true =>
      rw [hc, Bool.true_and] at hk
      cases he : effL P cs with
      | false => exact ⟨Vw.same (s he) _ _ l.1, fun z => (l.2 z).same ev (s he)⟩
      | true =>
        rw [he, Bool.true_and] at hk
        have hp : prim x = true := by simpa using hk
        exact ⟨l.1.prim hp, fun z => (l.2 z).prim hp⟩
  cases b with
  | true =>
    refine PA.imp (pa_cons (VS.PE.cpy h hv) hr hs) fun σ H Q ⟨w, ρ, k, f⟩ => ?_
    have f : FinG C W n ((cpy c (ev P Γ c ρ) ρ).bind fun x ρ => if isVar c && effL P cs && !prim x then .bad else (evLook P Γ true cs ρ).bind fun xs ρ => .ok (x :: xs) ρ) (eff P c || effL P cs) w H σ (fun xs vs w' H' => LkA true C w' H' xs vs) Q := f
    refine ⟨w, ρ, k, ?_⟩
    refine FinG.bind f (fun z => (or_ff z).1) fun x ρ1 v1 w1 H1 _ ev1 k1 r1 s1 f1 => ⟨w1, ρ1, k1, ?_⟩
    cases hk : isVar c && effL P cs && !prim x with
    | true => rw [hk] at f1; exact f1.elim
    | false =>
      rw [hk] at f1
      refine FinG.bind (n' := n + 1) f1 (fun z => (or_ff z).2) fun xs ρ2 vs w2 H2 _ ev2 k2 r2 s2 f2 => ?_
      exact FinG.ok k2 ⟨v1, vs, rfl, key (fun z => ⟨.fz, r1.2 z, fun _ => rfl⟩) ⟨r1.1.vw, fun _ => r1.1⟩ ev2 s2 hk, r2⟩ f2
  | false =>
    refine PA.imp (pa_cons (VS.PE.look h hv) hr hs) fun σ H Q ⟨w, ρ, k, f⟩ => ?_
    have f : FinG C W n ((look c (ev P Γ c ρ) ρ).bind fun x ρ => if isVar c && effL P cs && !prim x then .bad else (evLook P Γ false cs ρ).bind fun xs ρ => .ok (x :: xs) ρ) (eff P c || effL P cs) w H σ (fun xs vs w' H' => LkA false C w' H' xs vs) Q := f
    refine ⟨w, ρ, k, ?_⟩
    refine FinG.bind f (fun z => (or_ff z).1) fun x ρ1 v1 w1 H1 _ ev1 k1 r1 s1 f1 => ⟨w1, ρ1, k1, ?_⟩
    cases hk : isVar c && effL P cs && !prim x with
    | true => rw [hk] at f1; exact f1.elim
    | false =>
      rw [hk] at f1
      refine FinG.bind (n' := n + 1) f1 (fun z => (or_ff z).2) fun xs ρ2 vs w2 H2 _ ev2 k2 r2 s2 f2 => ?_
      exact FinG.ok k2 ⟨v1, vs, rfl, key (fun z => let ⟨m, r⟩ := r1.2 z; ⟨m, r, fun y => by cases y⟩) ⟨r1.1, fun y => by cases y⟩ ev2 s2 hk, r2⟩ f2
end
end VS

set_option Elab.async false
set_option linter.all false
set_option maxRecDepth 100000
/-! VF: built-ins by values. -/
namespace VS
open PySem PySem.Spec PyProof.Rows L2
theorem leP_trans (a b c : Int × Int) : leP a b = true → leP b c = true → leP a c = true := by
  simp only [leP, Bool.or_eq_true, Bool.and_eq_true, decide_eq_true_eq]
  omega
theorem leP_total (a b : Int × Int) : (leP a b || leP b a) = true := by
  simp only [leP, Bool.or_eq_true, Bool.and_eq_true, decide_eq_true_eq]
  omega
theorem leP_anti (a b : Int × Int) : leP a b = true → leP b a = true → a = b := by
  simp only [leP, Bool.or_eq_true, Bool.and_eq_true, decide_eq_true_eq]
  intro h1 h2
  apply Prod.ext <;> omega
theorem sortI_uniq {l m : List Int} (p : m.Perm l) (s : m.Pairwise (· ≤ ·)) : m = sortI l := by
  unfold sortI
  refine List.Perm.eq_of_pairwise (le := (· ≤ ·)) (fun x y _ _ h1 h2 => Int.le_antisymm h1 h2) s ?_ (p.trans (List.mergeSort_perm l _).symm)
  have h := List.pairwise_mergeSort (le := fun a b : Int => decide (a ≤ b)) (fun a b c h1 h2 => by simp only [decide_eq_true_eq] at *; omega) (fun a b => by simp only [Bool.or_eq_true, decide_eq_true_eq]; omega) l
  exact h.imp fun h => of_decide_eq_true h
theorem sortP_uniq {l m : List (Int × Int)} (p : m.Perm l) (s : m.Pairwise (fun a b => leP a b = true)) : m = sortP l := by
  unfold sortP
  exact List.Perm.eq_of_pairwise (le := fun a b => leP a b = true) (fun x y _ _ h1 h2 => leP_anti x y h1 h2) s (List.pairwise_mergeSort leP_trans leP_total l) (p.trans (List.mergeSort_perm l _).symm)
theorem ltC_irr : ∀ a : List Nat, ltCps a a = false
  | [] => rfl
  | x :: r => by simp [ltCps, ltC_irr r]
theorem ltC_tri : ∀ a b : List Nat, ltCps a b = false → ltCps b a = false → a = b
  | [], [], _, _ => rfl
  | [], _ :: _, h, _ => by simp [ltCps] at h
  | _ :: _, [], _, h => by simp [ltCps] at h
  | x :: r, y :: t, h, h' => by
    simp only [ltCps, Bool.or_eq_false_iff, Bool.and_eq_false_iff, decide_eq_false_iff_not, beq_eq_false_iff_ne] at h h'
    have e : x = y := by omega
    subst e
    have := ltC_tri r t (h.2.resolve_left fun z => z rfl) (h'.2.resolve_left fun z => z rfl)
    rw [this]
theorem ltC_trans : ∀ a b c : List Nat, ltCps a b = true → ltCps b c = true → ltCps a c = true
  | [], [], _, h, _ => by simp [ltCps] at h
  | [], _ :: _, [], _, h => by simp [ltCps] at h
  | [], _ :: _, _ :: _, _, _ => rfl
  | _ :: _, [], _, h, _ => by simp [ltCps] at h
  | _ :: _, _ :: _, [], _, h => by simp [ltCps] at h
  | x :: r, y :: t, z :: u, h, h' => by
    simp only [ltCps, Bool.or_eq_true, Bool.and_eq_true, decide_eq_true_eq, beq_iff_eq] at h h' ⊢
    rcases h with h | ⟨h, k⟩
    · rcases h' with h' | ⟨h', k'⟩
      · left; omega
      · left; omega
    · rcases h' with h' | ⟨h', k'⟩
      · left; omega
      · right; exact ⟨by omega, ltC_trans r t u k k'⟩
theorem leS_total (a b : Str) : (leS a b || leS b a) = true := by
  unfold leS
  cases h : ltCps b.cps.toList a.cps.toList with
  | false => rfl
  | true =>
    cases h' : ltCps a.cps.toList b.cps.toList with
    | false => rfl
    | true =>
      have := ltC_trans _ _ _ h h'
      rw [ltC_irr] at this
      cases this
theorem leS_trans (a b c : Str) (h : leS a b = true) (h' : leS b c = true) : leS a c = true := by
  unfold leS at *
  simp only [Bool.not_eq_true'] at *
  cases q : ltCps c.cps.toList a.cps.toList with
  | false => rfl
  | true =>
    exfalso
    cases q2 : ltCps a.cps.toList b.cps.toList with
    | true =>
      have := ltC_trans _ _ _ q q2
      rw [h'] at this
      cases this
    | false =>
      have e := ltC_tri _ _ q2 h
      rw [e] at q
      rw [q] at h'
      cases h'
theorem leS_anti (a b : Str) (h : leS a b = true) (h' : leS b a = true) : a = b := by
  unfold leS at *
  simp only [Bool.not_eq_true'] at *
  have e := ltC_tri _ _ h' h
  obtain ⟨a⟩ := a
  obtain ⟨b⟩ := b
  congr 1
  exact Array.toList_inj.mp e
theorem risingS_pw : ∀ (l : List Str) (p : Str), risingS p l = true → (p :: l).Pairwise (fun a b => leS a b = true)
  | [], _, _ => by simp
  | x :: r, p, h => by
    have h : (!ltCps x.cps.toList p.cps.toList && risingS x r) = true := h
    rw [Bool.and_eq_true] at h
    have ih := risingS_pw r x h.2
    refine List.pairwise_cons.mpr ⟨fun y hy => ?_, ih⟩
    have px : leS p x = true := h.1
    rcases List.mem_cons.mp hy with rfl | hy
    · exact px
    · exact leS_trans _ _ _ px ((List.pairwise_cons.mp ih).1 y hy)
theorem sortS_uniq {l m : List Str} (p : m.Perm l) (s : sortedS m = true) : m = sortS l := by
  unfold sortS
  have s' : m.Pairwise (fun a b => leS a b = true) := by
    cases m with
    | nil => exact .nil
    | cons x r => exact risingS_pw r x s
  exact List.Perm.eq_of_pairwise (le := fun a b => leS a b = true) (fun x y _ _ h1 h2 => leS_anti x y h1 h2) s' (List.pairwise_mergeSort leS_trans leS_total l) (p.trans (List.mergeSort_perm l _).symm)
theorem foldl_max : ∀ (r : List Int) (i : Int), (r.foldl (fun a b => if a < b then b else a) i = i ∨ r.foldl (fun a b => if a < b then b else a) i ∈ r) ∧ i ≤ r.foldl (fun a b => if a < b then b else a) i ∧ ∀ y ∈ r, y ≤ r.foldl (fun a b => if a < b then b else a) i
  | [], i => ⟨.inl rfl, Int.le_refl _, fun _ h => by cases h⟩
  | b :: r, i => by
    obtain ⟨h1, h2, h3⟩ := foldl_max r (if i < b then b else i)
    rw [List.foldl_cons]
    refine ⟨?_, ?_, fun y hy => ?_⟩
    · rcases h1 with h | h
      · rw [h]; split
        · exact .inr List.mem_cons_self
        · exact .inl rfl
      · exact .inr (List.mem_cons_of_mem _ h)
    · refine Int.le_trans ?_ h2; split <;> omega
    · rcases List.mem_cons.mp hy with e | e
      · subst e; refine Int.le_trans ?_ h2; split <;> omega
      · exact h3 y e
theorem foldl_min : ∀ (r : List Int) (i : Int), (r.foldl (fun a b => if b < a then b else a) i = i ∨ r.foldl (fun a b => if b < a then b else a) i ∈ r) ∧ r.foldl (fun a b => if b < a then b else a) i ≤ i ∧ ∀ y ∈ r, r.foldl (fun a b => if b < a then b else a) i ≤ y
  | [], i => ⟨.inl rfl, Int.le_refl _, fun _ h => by cases h⟩
  | b :: r, i => by
    obtain ⟨h1, h2, h3⟩ := foldl_min r (if b < i then b else i)
    rw [List.foldl_cons]
    refine ⟨?_, ?_, fun y hy => ?_⟩
    · rcases h1 with h | h
      · rw [h]; split
        · exact .inr List.mem_cons_self
        · exact .inl rfl
      · exact .inr (List.mem_cons_of_mem _ h)
    · refine Int.le_trans h2 ?_; split <;> omega
    · rcases List.mem_cons.mp hy with e | e
      · subst e; refine Int.le_trans h2 ?_; split <;> omega
      · exact h3 y e
theorem maxI_mem {ns : List Int} {m : Int} (h : maxI ns = some m) : m ∈ ns ∧ ∀ y ∈ ns, y ≤ m := by
  cases ns with
  | nil => cases h
  | cons i r =>
    cases h
    obtain ⟨h1, h2, h3⟩ := foldl_max r i
    refine ⟨?_, fun y hy => ?_⟩
    · rcases h1 with h | h
      · rw [h]; exact List.mem_cons_self
      · exact List.mem_cons_of_mem _ h
    · rcases List.mem_cons.mp hy with e | e
      · subst e; exact h2
      · exact h3 y e
theorem minI_mem {ns : List Int} {m : Int} (h : minI ns = some m) : m ∈ ns ∧ ∀ y ∈ ns, m ≤ y := by
  cases ns with
  | nil => cases h
  | cons i r =>
    cases h
    obtain ⟨h1, h2, h3⟩ := foldl_min r i
    refine ⟨?_, fun y hy => ?_⟩
    · rcases h1 with h | h
      · rw [h]; exact List.mem_cons_self
      · exact List.mem_cons_of_mem _ h
    · rcases List.mem_cons.mp hy with e | e
      · subst e; exact h2
      · exact h3 y e
theorem immL_ints : ∀ ns : List Int, immL (ns.map .int) = true
  | [] => rfl
  | n :: r => by rw [List.map_cons]; unfold immL; rw [immL_ints r]; rfl
theorem immL_prs : ∀ ps : List (Int × Int), immL (ps.map prD) = true
  | [] => rfl
  | n :: r => by rw [List.map_cons]; unfold immL; rw [immL_prs r]; rfl
theorem immL_strs : ∀ ps : List Str, immL (ps.map .str) = true
  | [] => rfl
  | n :: r => by rw [List.map_cons]; unfold immL; rw [immL_strs r]; rfl
section
variable {C : Nat → Addr} {w : Wh} {H : Hp}
theorem repL_strs : ∀ ns : List Str, RepL C w H (ns.map .str) .fz (.s 0) (ns.map V.str)
  | [] => rfl
  | n :: r => ⟨_, _, rfl, rfl, repL_strs r⟩
theorem repL_ints : ∀ ns : List Int, RepL C w H (ns.map .int) .fz (.s 0) (ns.map V.int)
  | [] => rfl
  | n :: r => ⟨_, _, rfl, rfl, repL_ints r⟩
/-- the two ints of a pair's value -/
noncomputable def prV (H : Hp) : V → Int × Int
  | .ref t => match H t with
    | some (.tup [.int i, .int j]) => (i, j)
    | _ => (0, 0)
  | _ => (0, 0)
theorem prs_V : ∀ {xs : List D} {ps : List (Int × Int)} {vs : List V}, prsD xs = some ps → RepL C w H xs .fz (.s 0) vs →
    vs.map (prV H) = ps ∧ ∀ v ∈ vs, (∃ t, v = V.ref t ∧ H t = some (.tup [.int (prV H v).1, .int (prV H v).2])) ∧ Rep C w H (prD (prV H v)) .fz (.s 0) v := by
  intro xs
  induction xs with
  | nil =>
    intro ps vs e h
    cases e
    rw [show vs = _ from h]
    exact ⟨rfl, fun v hv => by cases hv⟩
  | cons d r ih =>
    intro ps vs e h
    obtain ⟨v, vr, q, h1, h2⟩ := h
    subst q
    unfold prsD at e
    split at e
    · rename_i heq
      cases heq
    · rename_i i j r' heq
      obtain ⟨rfl, rfl⟩ := List.cons.inj heq
      cases q2 : prsD r with
      | none => rw [q2] at e; cases e
      | some qs =>
        rw [q2] at e
        cases e
        obtain ⟨e1, e2⟩ := ih q2 h2
        obtain ⟨t, us, et, hw, hH, ⟨u1, ur, eu, hu1, u2, ur2, eu2, hu2, hn⟩⟩ := h1
        subst et
        have hu1 : u1 = .int i := hu1
        have hu2 : u2 = .int j := hu2
        have hn : ur2 = [] := hn
        subst eu hu1 eu2 hu2 hn
        have ep : prV H (.ref t) = (i, j) := by simp only [prV, hH]
        refine ⟨by rw [List.map_cons, ep, e1], fun v hv => ?_⟩
        rcases List.mem_cons.mp hv with q | q
        · subst q
          rw [ep]
          exact ⟨⟨t, rfl, hH⟩, t, _, rfl, hw, hH, _, _, rfl, rfl, _, _, rfl, rfl, rfl⟩
        · exact e2 v q
    · cases e
theorem repL_of {f : V → D} : ∀ {vs : List V}, (∀ v ∈ vs, Rep C w H (f v) .fz (.s 0) v) → RepL C w H (vs.map f) .fz (.s 0) vs
  | [], _ => rfl
  | v :: vs, h => ⟨v, vs, rfl, h v List.mem_cons_self, repL_of fun u hu => h u (List.mem_cons_of_mem _ hu)⟩
end

theorem immL_keys {β : Type} : ∀ kvs : List (Key × β), immL (kvs.map fun p => keyD p.1) = true
  | [] => rfl
  | (k, _) :: r => by rw [List.map_cons]; unfold immL; rw [immL_keys r]; cases k <;> rfl
theorem immL_key : ∀ ks : List Key, immL (ks.map keyD) = true
  | [] => rfl
  | k :: r => by rw [List.map_cons]; unfold immL; rw [immL_key r]; cases k <;> rfl
theorem immL_keysT {β : Type} : ∀ kvs : List (List Key × β), immL (kvs.map fun p => keysD p.1) = true
  | [] => rfl
  | (k, _) :: r => by
    rw [List.map_cons]; unfold immL; rw [immL_keysT r]
    show (immL (k.map keyD) && true) = true
    rw [immL_key k]; rfl
theorem rep_key {C : Nat → Addr} {w : Wh} {H : Hp} {m : Md} {i : Id} (k : Key) : Rep C w H (keyD k) m i (kV k) := by cases k <;> rfl
theorem repL_key {C : Nat → Addr} {w : Wh} {H : Hp} {m : Md} {i : Id} : ∀ ks : List Key, RepL C w H (ks.map keyD) m i (ks.map kV)
  | [] => rfl
  | k :: r => ⟨_, _, rfl, rep_key k, repL_key r⟩
theorem repL_keysK {C : Nat → Addr} {w : Wh} {H : Hp} {m m' : Md} {i i' : Id} : ∀ {kvs : List (Key × D)} {vs : List (Key × V)}, RepK C w H kvs m i vs → RepL C w H (kvs.map fun p => keyD p.1) m' i' (vs.map fun kv => kV kv.1)
  | [], _, h => by rw [show _ = [] from h]; rfl
  | (k, d) :: r, _, ⟨v, vr, e, _, h2⟩ => by subst e; exact ⟨_, _, rfl, rep_key k, repL_keysK h2⟩
theorem repL_keysT {C : Nat → Addr} {w : Wh} {H : Hp} {m : Md} {i : Id} (tp : ∀ a vs, H a = some (.tup vs) → w a = .no ∨ w a = .fz) : ∀ {kvs : List (List Key × D)} {vs : List (List Key × V)} {bs : List Addr}, RepT C w H kvs m i vs → IsKeys H vs bs → RepL C (fzT w H) H (kvs.map fun p => keysD p.1) .fz (.s 0) (bs.map V.ref)
  | [], _, _, h, p => by
    have e : _ = [] := h
    subst e
    cases p
    rfl
  | (k, d) :: r, _, _, ⟨v, vr, e, _, h2⟩, p => by
    subst e
    cases p with
    | cons h1 h3 => exact ⟨_, _, rfl, ⟨_, _, rfl, fzT_tup h1 (tp _ _ h1), h1, repL_key k⟩, repL_keysT tp h2 h3⟩
def biV : Bi → Value
  | .len => .builtin "len" | .abs => .builtin "abs" | .int => .type "int" | .sum => .builtin "sum" | .max1 => .builtin "max" | .min1 => .builtin "min" | .max2 => .builtin "max" | .min2 => .builtin "min"
  | .list => .type "list" | .sorted => .builtin "sorted" | .all => .builtin "all" | .any => .builtin "any"
def rBi (b : Bi) : List V → Hp → VK → Prop := fun vs H Q => ∃ C w ds r, LkA b.cp C w H ds vs ∧ biD b ds = some r ∧ Cont C w H r Q
theorem CallR.imp {X : Cx} {f : Value} {r r' : List V → Hp → VK → Prop} (h : CallR X f r) (k : ∀ xs H Q, r' xs H Q → r xs H Q) : CallR X f r' := fun pins s σ H xs us Q I rv q => h pins s σ H xs us Q I rv (k xs H Q q)
theorem lk1 {C : Nat → Addr} {w : Wh} {H : Hp} {c : Bool} {d : D} {vs : List V} (h : LkA c C w H [d] vs) : ∃ v, vs = [v] ∧ Lk c C w H d v := by
  obtain ⟨v, vr, e, h1, h2⟩ := h
  rw [show vr = [] from h2] at e
  exact ⟨v, e, h1⟩
theorem lk2 {C : Nat → Addr} {w : Wh} {H : Hp} {c : Bool} {d d' : D} {vs : List V} (h : LkA c C w H [d, d'] vs) : ∃ v v', vs = [v, v'] ∧ Lk c C w H d v ∧ Lk c C w H d' v' := by
  obtain ⟨v, vr, e, h1, h2⟩ := h
  obtain ⟨v', e2, h3⟩ := lk1 h2
  subst e2
  exact ⟨v, v', e, h1, h3⟩
theorem maxOf_int : ∀ (r : List Int) (x : Int), PySem.W.maxOf x r = r.foldl (fun a b => if a < b then b else a) x := fun r x => by
  unfold PySem.W.maxOf
  congr 1
  funext a y
  show (if decide (a < y) = true then y else a) = _
  simp
theorem minOf_int : ∀ (r : List Int) (x : Int), PySem.W.minOf x r = r.foldl (fun a b => if b < a then b else a) x := fun r x => by
  unfold PySem.W.minOf
  congr 1
  funext a y
  show (if decide (y < a) = true then y else a) = _
  simp
section
variable {X : Cx}
def rMaxT (f : List Int → Option Int) (K : PySem.W.Frag) : List V → Hp → VK → Prop := fun vs H Q => ∃ a ns i, vs = [V.ref a] ∧ SqT K H a (ns.map V.int) ∧ f ns = some i ∧ Q (.int i) H
theorem cr_maxT (hc : X.calm = true) (hu : X.A.units + 65 < cLine) : CallR X (.builtin "max") (rMaxT maxI X.K) := by
  intro pins s σ H vs us Q I r h
  obtain ⟨a, ns, i, rfl, hs, hm, q⟩ := h
  obtain ⟨its, rv, hl, _⟩ := I.tuple hs
  rw [Vals.ref1 r]
  cases ns with
  | nil => cases hm
  | cons x xs =>
    refine PySem.W.max_tuple_datum (α := Int) (x := x) (xs := xs) (I.ok.hd hc) hl (PySem.W.HoldAll.of_ints (by simpa using rv.ints)) (by show X.A.units + 1 + 0 < cLine; omega) fun j v h' tk hj hv hk => ?_
    rw [maxOf_int] at hv
    have hm : some _ = some i := hm
    cases hm
    obtain ⟨as, hv⟩ := hv
    cases hv
    exact ⟨.int _, H, I.kept hk, ⟨_, rfl⟩, q⟩
theorem cr_minT (hc : X.calm = true) (hu : X.A.units + 65 < cLine) : CallR X (.builtin "min") (rMaxT minI X.K) := by
  intro pins s σ H vs us Q I r h
  obtain ⟨a, ns, i, rfl, hs, hm, q⟩ := h
  obtain ⟨its, rv, hl, _⟩ := I.tuple hs
  rw [Vals.ref1 r]
  cases ns with
  | nil => cases hm
  | cons x xs =>
    refine PySem.W.min_tuple_datum (α := Int) (x := x) (xs := xs) (I.ok.hd hc) hl (PySem.W.HoldAll.of_ints (by simpa using rv.ints)) (by show X.A.units + 1 + 0 < cLine; omega) fun j v h' tk hj hv hk => ?_
    rw [minOf_int] at hv
    have hm : some _ = some i := hm
    cases hm
    obtain ⟨as, hv⟩ := hv
    cases hv
    exact ⟨.int _, H, I.kept hk, ⟨_, rfl⟩, q⟩
theorem call_bi (hc : X.calm = true) (hu : X.A.units + 65 < cLine) (b : Bi) : CallR X (biV b) (rBi b) := by
  have one : ∀ {f : Int → Int} {C w H ds r vs Q} {c : Bool}, LkA c C w H ds vs → oneI f ds = some r → Cont C w H r Q → ∃ i, vs = [V.int i] ∧ Q (.int (f i)) H := fun {f C w H ds r vs Q c} l e k => by
    unfold oneI at e
    split at e
    · cases e
      obtain ⟨v, e1, l1⟩ := lk1 l
      rw [show v = _ from l1.1] at e1
      exact ⟨_, e1, cont_int k⟩
    · cases e
  have two : ∀ {f : Int → Int → Int} {C w H ds r vs Q} {c : Bool}, LkA c C w H ds vs → twoI f ds = some r → Cont C w H r Q → ∃ i j, vs = [V.int i, V.int j] ∧ Q (.int (f i j)) H := fun {f C w H ds r vs Q c} l e k => by
    unfold twoI at e
    split at e
    · cases e
      obtain ⟨v, v', e1, l1, l2⟩ := lk2 l
      rw [show v = _ from l1.1, show v' = _ from l2.1] at e1
      exact ⟨_, _, e1, cont_int k⟩
    · cases e
  have lst : ∀ {f : List Int → Option Int} {C w H ds r vs Q} {c : Bool}, LkA c C w H ds vs → lstI f ds = some r → Cont C w H r Q → ∃ a ns i, vs = [V.ref a] ∧ SqL X.K H a (ns.map V.int) ∧ f ns = some i ∧ Q (.int i) H := fun {f C w H ds r vs Q c} l e k => by
    unfold lstI at e
    split at e
    · rename_i xs
      cases q : intsD xs with
      | none => rw [q] at e; cases e
      | some ns =>
        rw [q] at e
        cases q2 : f ns with
        | none => simp [q2] at e
        | some i =>
          simp [q2] at e
          subst e
          obtain ⟨v, e1, l1⟩ := lk1 l
          obtain ⟨a, us, ea, hH, hr⟩ := l1.1
          rw [ea] at e1
          rw [VwL.ints q hr] at hH
          exact ⟨a, ns, i, e1, .inl hH, q2, cont_int k⟩
    · cases e
  have lstt : ∀ {f : List Int → Option Int} {C w H ds r vs Q} {c : Bool}, LkA c C w H ds vs → lstTI f ds = some r → Cont C w H r Q → ∃ a ns i, vs = [V.ref a] ∧ (SqL X.K H a (ns.map V.int) ∨ SqT X.K H a (ns.map V.int)) ∧ f ns = some i ∧ Q (.int i) H := fun {f C w H ds r vs Q c} l e k => by
    unfold lstTI at e
    split at e
    · rename_i xs
      cases q : intsD xs with
      | none => rw [q] at e; cases e
      | some ns =>
        rw [q] at e
        cases q2 : f ns with
        | none => simp [q2] at e
        | some i =>
          simp [q2] at e
          subst e
          obtain ⟨v, e1, l1⟩ := lk1 l
          obtain ⟨a, us, ea, hH, hr⟩ := l1.1
          rw [ea] at e1
          rw [VwL.ints q hr] at hH
          exact ⟨a, ns, i, e1, .inl (.inl hH), q2, cont_int k⟩
    · rename_i xs
      cases q : intsD xs with
      | none => rw [q] at e; cases e
      | some ns =>
        rw [q] at e
        cases q2 : f ns with
        | none => simp [q2] at e
        | some i =>
          simp [q2] at e
          subst e
          obtain ⟨v, e1, l1⟩ := lk1 l
          obtain ⟨a, us, ea, hH, hr⟩ := l1.1
          rw [ea] at e1
          rw [VwL.ints q hr] at hH
          exact ⟨a, ns, i, e1, .inr (.inl (.inl hH)), q2, cont_int k⟩
    · cases e
  have lsb : ∀ {f : List Bool → Bool} {C w H ds r vs Q} {c : Bool}, LkA c C w H ds vs → lstB f ds = some r → Cont C w H r Q → ∃ a bs, vs = [V.ref a] ∧ SqL X.K H a (bs.map V.bl) ∧ Q (.bl (f bs)) H := fun {f C w H ds r vs Q c} l e k => by
    unfold lstB at e
    split at e
    · rename_i xs
      cases q : blsD xs with
      | none => rw [q] at e; cases e
      | some ns =>
        rw [q] at e
        cases e
        obtain ⟨v, e1, l1⟩ := lk1 l
        obtain ⟨a, us, ea, hH, hr⟩ := l1.1
        rw [ea] at e1
        rw [VwL.bls q hr] at hH
        exact ⟨a, ns, e1, .inl hH, cont_bl k⟩
    · cases e
  cases b with
  | len =>
    refine CallR.imp ((call_len_seq (X := X)).or ((call_len_str (X := X)).or (call_lenD (X := X)))) fun vs H Q ⟨C, w, ds, r, l, e, k⟩ => ?_
    have e : lenD ds = some r := e
    unfold lenD at e
    split at e
    · cases e
      obtain ⟨v, e1, l1⟩ := lk1 l
      obtain ⟨a, us, ea, hH, hr⟩ := l1.1
      subst ea
      exact .inl ⟨a, us, e1, .inl (.inl hH), by rw [hr.length]; exact cont_int k⟩
    · cases e
      obtain ⟨v, e1, l1⟩ := lk1 l
      obtain ⟨a, us, ea, hH, hr⟩ := l1.1
      subst ea
      exact .inl ⟨a, us, e1, .inr (.inl (.inl hH)), by rw [hr.length]; exact cont_int k⟩
    · obtain ⟨hz, e⟩ := guard_some e
      subst e
      obtain ⟨v, e1, l1⟩ := lk1 l
      rw [show v = _ from l1.1] at e1
      exact .inr (.inl ⟨_, e1, of_decide_eq_true hz, cont_int k⟩)
    · rename_i kvs e0
      cases e
      obtain ⟨v, e1, l1⟩ := lk1 l
      obtain ⟨a, us, ea, hH, hr⟩ := l1.1
      subst ea
      have hl : us.length = kvs.length := by
        clear l l1 k e1 hH e0
        induction kvs generalizing us with
        | nil => rw [show us = _ from hr]; rfl
        | cons p q ih =>
          obtain ⟨f, d⟩ := p
          obtain ⟨v, vr, e, _, h2⟩ := hr
          subst e
          rw [List.length_cons, List.length_cons, ih vr h2]
      exact .inr (.inr ⟨a, us, e1, hH, by rw [hl]; exact cont_int k⟩)
    · cases e
  | abs => exact CallR.imp call_abs fun vs H Q ⟨C, w, ds, r, l, e, k⟩ => one l e k
  | int => exact CallR.imp call_int1 fun vs H Q ⟨C, w, ds, r, l, e, k⟩ => .inl (one (f := fun i => i) l e k)
  | sum =>
    refine CallR.imp (cr_sum hc) fun vs H Q ⟨C, w, ds, r, l, e, k⟩ => ?_
    obtain ⟨a, ns, i, e1, h, e2, q⟩ := lst l e k
    cases e2
    exact ⟨a, ns, e1, h, q⟩
  | max1 =>
    refine CallR.imp ((cr_max hc).or (cr_maxT hc hu)) fun vs H Q ⟨C, w, ds, r, l, e, k⟩ => ?_
    obtain ⟨a, ns, i, e1, h, e2, q⟩ := lstt l e k
    obtain ⟨m1, m2⟩ := maxI_mem e2
    rcases h with h | h
    case inr => exact .inr ⟨a, ns, i, e1, h, e2, q⟩
    refine .inl ⟨a, ns, e1, h, List.length_pos_of_mem m1, fun m hm hle => ?_⟩
    have em : m = i := Int.le_antisymm (m2 m hm) (hle i m1)
    rw [em]; exact q
  | min1 =>
    refine CallR.imp ((cr_min hc).or (cr_minT hc hu)) fun vs H Q ⟨C, w, ds, r, l, e, k⟩ => ?_
    obtain ⟨a, ns, i, e1, h, e2, q⟩ := lstt l e k
    obtain ⟨m1, m2⟩ := minI_mem e2
    rcases h with h | h
    case inr => exact .inr ⟨a, ns, i, e1, h, e2, q⟩
    refine .inl ⟨a, ns, e1, h, List.length_pos_of_mem m1, fun m hm hle => ?_⟩
    have em : m = i := Int.le_antisymm (hle i m1) (m2 m hm)
    rw [em]; exact q
  | max2 => exact CallR.imp (call_max2 hc) fun vs H Q ⟨C, w, ds, r, l, e, k⟩ => two l e k
  | min2 => exact CallR.imp (call_min2 hc) fun vs H Q ⟨C, w, ds, r, l, e, k⟩ => two l e k
  | list =>
    refine CallR.imp (call_list_of.or ((call_list_dK hc).or (call_list_dT hc))) fun vs H Q ⟨C, w, ds, r, l, e, k⟩ => ?_
    have e : listD ds = some r := e
    unfold listD at e
    split at e
    · cases e
      obtain ⟨v, e1, l1⟩ := lk1 l
      obtain ⟨a, us, ea, hH, hr⟩ := l1.2 rfl
      subst ea
      exact .inl ⟨a, us, e1, .inl (.inl hH), fun p hp => k.ls _ rfl p us hp hr⟩
    · cases e
      obtain ⟨v, e1, l1⟩ := lk1 l
      obtain ⟨a, us, ea, hw, hH, hr⟩ := l1.2 rfl
      subst ea
      exact .inl ⟨a, us, e1, .inr (.inl (.inl hH)), fun p hp => k.ls _ rfl p us hp hr⟩
    · cases e
      obtain ⟨v, e1, l1⟩ := lk1 l
      obtain ⟨a, us, ea, hH, hr⟩ := l1.2 rfl
      subst ea
      exact .inr (.inl ⟨a, us, e1, hH, fun p hp => k.ls _ rfl p _ hp (repL_keysK hr)⟩)
    · cases e
      obtain ⟨v, e1, l1⟩ := lk1 l
      obtain ⟨a, us, ea, hH, hr⟩ := l1.2 rfl
      subst ea
      exact .inr (.inr ⟨a, us, e1, .inl hH, fun p bs hp hk => k.lf _ rfl p _ hp (repL_keysT k.tp hr hk)⟩)
    · cases e
  | sorted =>
    refine CallR.imp (((cr_sortedI (X := X)).or (cr_sortedPO (X := X))).or (cr_sortedS (X := X))) fun vs H Q ⟨C, w, ds, r, l, e, k⟩ => ?_
    have e : sortedD ds = some r := e
    unfold sortedD at e
    split at e
    · rename_i xs _
      obtain ⟨v, e1, l1⟩ := lk1 l
      obtain ⟨a, us, ea, hH, hr⟩ := l1.2 rfl
      subst ea
      cases q : intsD xs with
      | some ns =>
        rw [q] at e
        cases e
        rw [RepL.ints q hr] at hH
        refine .inl (.inl ⟨a, ns, e1, .inl hH, fun ns' p hp hs hn => ?_⟩)
        rw [sortI_uniq hp hs]
        exact k.ls _ rfl p _ hn (repL_ints _)
      | none =>
        rw [q] at e
        cases q2 : prsD xs with
        | none =>
          rw [q2] at e
          cases q3 : strsD xs with
          | none => rw [q3] at e; cases e
          | some ss =>
            rw [q3] at e
            have e : (if ss.length < 64 then some (D.lst ((sortS ss).map .str), Md.dp) else none) = some r := e
            split at e
            · rename_i hl
              cases e
              rw [RepL.strs q3 hr] at hH
              refine .inr ⟨a, ss, e1, .inl hH, hl, fun ns' p hp hs hn => ?_⟩
              rw [sortS_uniq hp hs]
              exact k.ls _ rfl p _ hn (repL_strs _)
            · cases e
        | some ps =>
          rw [q2] at e
          cases e
          obtain ⟨h1, h2⟩ := prs_V q2 hr
          refine .inl <| .inr ⟨a, us, prV H, e1, .inl hH, fun v hv => (h2 v hv).1, fun ys p hs hb hn => ?_⟩
          refine k.ls _ rfl p _ hn ?_
          have hm : ys.map (prV H) = sortP ps := by
            refine sortP_uniq ?_ ?_
            · rw [← h1]; exact hb.perm.map _
            · rw [List.pairwise_map]
              refine List.Pairwise.imp ?_ hs
              intro x y hxy
              have z := SrtO.lexB_no.mp hxy
              simp only [leP, Bool.or_eq_true, Bool.and_eq_true, decide_eq_true_eq]
              omega
          rw [← hm, List.map_map]
          exact repL_of fun v hv => (h2 v (hb.perm.mem_iff.mp hv)).2
    · cases e
  | all =>
    refine CallR.imp (cr_all hc) fun vs H Q ⟨C, w, ds, r, l, e, k⟩ => ?_
    obtain ⟨a, bs, e1, h, q⟩ := lsb l e k
    exact ⟨a, bs, e1, h, q⟩
  | any =>
    refine CallR.imp (cr_any hc) fun vs H Q ⟨C, w, ds, r, l, e, k⟩ => ?_
    obtain ⟨a, bs, e1, h, q⟩ := lsb l e k
    exact ⟨a, bs, e1, h, q⟩
theorem biD_fit {b : Bi} {ds : List D} {r : D × Md} (h : biD b ds = some r) : Fit r := by
  have one : ∀ {f : Int → Int}, oneI f ds = some r → Fit r := fun {f} e => by
    unfold oneI at e; split at e <;> cases e; exact fit_prim rfl
  have two : ∀ {f : Int → Int → Int}, twoI f ds = some r → Fit r := fun {f} e => by
    unfold twoI at e; split at e <;> cases e; exact fit_prim rfl
  have lst : ∀ {f : List Int → Option Int}, lstI f ds = some r → Fit r := fun {f} e => by
    unfold lstI at e
    split at e
    · rename_i xs
      cases q : intsD xs with
      | none => rw [q] at e; cases e
      | some ns =>
        rw [q] at e
        cases q2 : f ns with
        | none => simp [q2] at e
        | some i => simp [q2] at e; subst e; exact fit_prim rfl
    · cases e
  have lstt : ∀ {f : List Int → Option Int}, lstTI f ds = some r → Fit r := fun {f} e => by
    unfold lstTI at e
    split at e
    · rename_i xs
      cases q : intsD xs with
      | none => rw [q] at e; cases e
      | some ns =>
        rw [q] at e
        cases q2 : f ns with
        | none => simp [q2] at e
        | some i => simp [q2] at e; subst e; exact fit_prim rfl
    · rename_i xs
      cases q : intsD xs with
      | none => rw [q] at e; cases e
      | some ns =>
        rw [q] at e
        cases q2 : f ns with
        | none => simp [q2] at e
        | some i => simp [q2] at e; subst e; exact fit_prim rfl
    · cases e
  have lsb : ∀ {f : List Bool → Bool}, lstB f ds = some r → Fit r := fun {f} e => by
    unfold lstB at e
    split at e
    · rename_i xs
      cases q : blsD xs with
      | none => rw [q] at e; cases e
      | some ns => rw [q] at e; cases e; exact fit_prim rfl
    · cases e
  cases b with
  | len =>
    have e : lenD ds = some r := h
    unfold lenD at e
    split at e
    · cases e; exact fit_prim rfl
    · cases e; exact fit_prim rfl
    · obtain ⟨_, e⟩ := guard_some e; subst e; exact fit_prim rfl
    · cases e; exact fit_prim rfl
    · cases e
  | abs => exact one h
  | int => exact one h
  | sum => exact lst h
  | max1 => exact lstt h
  | min1 => exact lstt h
  | max2 => exact two h
  | min2 => exact two h
  | list =>
    have e : listD ds = some r := h
    unfold listD at e
    split at e
    · cases e; exact fit_lstM _
    · cases e; exact fit_lstM _
    · cases e; exact fun zs ez => by cases ez; exact .inr ⟨rfl, immL_keys _⟩
    · cases e; exact fun zs ez => by cases ez; exact .inr ⟨rfl, immL_keysT _⟩
    · cases e
  | sorted =>
    have e : sortedD ds = some r := h
    unfold sortedD at e
    split at e
    · rename_i xs
      cases q : intsD xs with
      | some ns => rw [q] at e; cases e; exact fun zs ez => by cases ez; exact .inr ⟨rfl, immL_ints _⟩
      | none =>
        rw [q] at e
        cases q2 : prsD xs with
        | none =>
          rw [q2] at e
          cases q3 : strsD xs with
          | none => rw [q3] at e; cases e
          | some ss =>
            rw [q3] at e
            have e : (if ss.length < 64 then some (D.lst ((sortS ss).map .str), Md.dp) else none) = some r := e
            split at e
            · cases e; exact fun zs ez => by cases ez; exact .inr ⟨rfl, immL_strs _⟩
            · cases e
        | some ps => rw [q2] at e; cases e; exact fun zs ez => by cases ez; exact .inr ⟨rfl, immL_prs _⟩
    · cases e
  | all => exact lsb h
  | any => exact lsb h
end
end VS

set_option Elab.async false
set_option linter.all false
set_option maxRecDepth 100000
/-! VG: the check that a small expression is a Python one. -/
namespace VS
open PySem PySem.Spec PyProof.Rows L2

/-- names of the program's defs and classes, by number -/
structure Tx where
  mc : Nat → Bool
  hk : Nat → Bool
  fk : Nat → Bool
  fnm : Nat → Str
  cnm : Nat → Str
def vis (sc : Scope) (x : Str) : Bool := match sc.names.lookup x with
  | some .local => true | some .cell => true | some .free => true
  | _ => false
def loc (sc : Scope) (x : Str) : Bool := match sc.names.lookup x with
  | some .local => true
  | some .cell => true
  | _ => false
def glb (sc : Scope) (x : Str) : Bool := match sc.names.lookup x with
  | some .globalImplicit => true
  | _ => false
def nmOk (x : Str) : Bool := !(x == ("__debug__" : Str)) && !(x == ("__classdict__" : Str))
def biN : Bi → Str
  | .len => "len" | .abs => "abs" | .int => "int" | .sum => "sum" | .max1 => "max" | .min1 => "min" | .max2 => "max" | .min2 => "min" | .list => "list" | .sorted => "sorted" | .all => "all" | .any => "any"
def tyN : Ty → Str
  | .int => "int" | .bool => "bool" | .str => "str" | .list => "list" | .tuple => "tuple" | .dict => "dict" | .cls _ => ""
/-- not super() -/
def base : Expr → Bool
  | .Call (.Name _ _) [] [] _ => false
  | _ => true
section
variable (T : Tx) (N : List Str)
def chkV (sc : Scope) (i : Nat) (e : Expr) : Bool := match e with
  | .Name x _ => decide (N[i]? = some x) && vis sc x && nmOk x
  | _ => false
def chkT1 (sc : Scope) (i : Nat) (e : Expr) : Bool := match e with
  | .Name x _ => decide (N[i]? = some x) && loc sc x
  | _ => false
def chkTs (sc : Scope) : List Nat → List Expr → Bool
  | [], [] => true
  | i :: is, e :: es => chkT1 N sc i e && chkTs sc is es
  | _, _ => false
/-- a target: one name, or a tuple of names -/
def chkTg (sc : Scope) (tup : Bool) (is : List Nat) (e : Expr) : Bool := match tup, is, e with
  | false, [i], e => chkT1 N sc i e
  | true, is, .Tuple es _ _ => chkTs N sc is es
  | _, _, _ => false
def ownN (own : List Nat) : List (Str × Nat) := own.map fun i => (N.getD i Str.empty, i)
mutual
def chkE (sc : Scope) (c : Ex) (e : Expr) : Bool := match c with
  | .int i => match e with
    | .Constant (.int j) _ _ => decide (i = j)
    | _ => false
  | .str x => match e with
    | .Constant (.str y) _ _ => decide (x = y)
    | _ => false
  | .bl b => match e with
    | .Constant (.bool d) _ _ => b == d
    | _ => false
  | .non => match e with
    | .Constant .none _ _ => true
    | _ => false
  | .var i => chkV N sc i e
  | .mv i => chkV N sc i e
  | .bin op a b => match e with
    | .BinOp l o r _ => decide (o = bopO op) && chkE sc a l && chkE sc b r
    | _ => false
  | .neg a => match e with
    | .UnaryOp .USub x _ => chkE sc a x
    | _ => false
  | .cmp op a b => match e with
    | .Compare l [o] [r] _ => decide (o = copO op) && chkE sc a l && chkE sc b r
    | _ => false
  | .chain op op' a b c => match e with
    | .Compare l [o, o'] [m, r] _ => decide (o = copO op) && decide (o' = copO op') && chkE sc a l && chkE sc b m && chkE sc c r
    | _ => false
  | .isN neg a => match e with
    | .Compare l [o] [.Constant .none _ _] _ => decide (o = if neg then .IsNot else .Is) && chkE sc a l
    | _ => false
  | .and es => match e with
    | .BoolOp .And xs _ => !es.isEmpty && chkL sc es xs
    | _ => false
  | .or es => match e with
    | .BoolOp .Or xs _ => !es.isEmpty && chkL sc es xs
    | _ => false
  | .not a => match e with
    | .UnaryOp .Not x _ => chkE sc a x
    | _ => false
  | .ife t a b => match e with
    | .IfExp x y z _ => chkE sc t x && chkE sc a y && chkE sc b z
    | _ => false
  | .lst es => match e with
    | .List xs _ => chkL sc es xs
    | _ => false
  | .tup es => match e with
    | .Tuple xs _ _ => chkL sc es xs
    | _ => false
  | .dK0 => match e with
    | .Dict [] [] _ => true
    | _ => false
  | .dT0 => match e with
    | .Dict [] [] _ => true
    | _ => false
  | .ix a b => match e with
    | .Subscript x i _ => chkE sc a x && chkE sc b i
    | _ => false
  | .slc a lo hi => match e with
    | .Subscript x (.Slice l h none _) _ => chkE sc a x && chkO sc lo l && chkO sc hi h
    | _ => false
  | .fld a f => match e with
    | .Attribute x g _ => base x && decide (f = g) && chkE sc a x
    | _ => false
  | .call f es => match e with
    | .Call (.Name x _) xs [] _ => decide (x = T.fnm f) && T.fk f && glb sc x && nmOk x && !es.isEmpty && chkL sc es xs
    | _ => false
  | .bi b es => match e with
    | .Call (.Name x _) xs [] _ => decide (x = biN b) && glb sc x && !es.isEmpty && chkL sc es xs
    | _ => false
  | .isI a t => match e with
    | .Call (.Name x _) [y, .Name z _] [] _ => decide (x = ("isinstance" : Str)) && glb sc x && chkE sc a y && decide (z = tyN t) && glb sc z && (match t with | .cls _ => false | _ => true)
    | _ => false
  | .pop i => match e with
    | .Call (.Attribute o m ap) [] [] cp => decide (m = ("pop" : Str)) && (ap.endLine == cp.line) && chkV N sc i o
    | _ => false
  | .popAt i a => match e with
    | .Call (.Attribute o m ap) [x] [] cp => decide (m = ("pop" : Str)) && (ap.endLine == cp.line) && chkV N sc i o && chkE sc a x
    | _ => false
  | .compR own tg as ifs elt => match e with
    | .ListComp y [⟨t, .Call (.Name r _) xs [] _, cs, 0⟩] scope _ => decide (r = ("range" : Str)) && glb sc r && decide (as.length = 1 ∨ as.length = 2) && chkL sc as xs && blkC N sc scope (ownN N own) && chkT1 N scope tg t && decide (tg ∈ own) && chkI (relS scope sc) ifs cs && chkE (relS scope sc) elt y
    | _ => false
  | .compL own tup tg a ifs elt => match e with
    | .ListComp y [⟨t, x, cs, 0⟩] scope _ => chkE sc a x && blkC N sc scope (ownN N own) && chkTg N scope tup tg t && tg.all (fun i => decide (i ∈ own)) && chkI (relS scope sc) ifs cs && chkE (relS scope sc) elt y
    | _ => false
  | .sh i => chkV N sc i e
  | .mk c es => match e with
    | .Call (.Name x _) xs [] _ => decide (x = T.cnm c) && T.mc c && glb sc x && nmOk x && !es.isEmpty && chkL sc es xs
    | _ => false
  | .meth i m es => match e with
    | .Call (.Attribute x g ap) xs [] cp => decide (g = m) && (ap.endLine == cp.line) && decide (xs.length < 29) && chkV N sc i x && chkL sc es xs
    | _ => false
  | .hole => false
def chkL (sc : Scope) (cs : List Ex) (es : List Expr) : Bool := match cs with
  | [] => match es with
    | [] => true
    | _ => false
  | c :: cs => match es with
    | e :: es => chkE sc c e && chkL sc cs es
    | _ => false
def chkO (sc : Scope) (cs : List Ex) (o : Option Expr) : Bool := match cs with
  | [] => match o with
    | none => true
    | _ => false
  | c :: cs => match o with
    | some e => cs.isEmpty && chkE sc c e
    | _ => false
def chkI (sc : Scope) (cs : List Ex) (es : List Expr) : Bool := match cs with
  | [] => match es with
    | [] => true
    | _ => false
  | c :: cs => match es with
    | [e] => cs.isEmpty && chkE sc c e
    | _ => false
end
end
/-- an expression that the check lets, other than a hole -/
theorem hole_bad {P : Pg} {Γ : Ga} {C : Nat → Addr} {W : WX} {n : Nat} {σ : L2.St} {H : Hp} {Q : VK} (h : tE P Γ C W n .hole σ H Q) : False := by
  obtain ⟨w, ρ, k, f⟩ := h
  exact f
section
variable {T : Tx} {N : List Str} {sc : Scope} {c : Ex} {e : Expr}
theorem vis_ok {x : Str} (h : vis sc x = true) : Vis sc x := by
  unfold vis at h
  split at h
  · exact .inl ‹_›
  · exact .inr (.inl ‹_›)
  · exact .inr (.inr ‹_›)
  · cases h
theorem glb_ok {x : Str} (h : glb sc x = true) : sc.names.lookup x = some .globalImplicit := by
  unfold glb at h
  split at h
  · assumption
  · cases h
theorem loc_ok {x : Str} (h : loc sc x = true) : Loc sc x := by
  unfold loc at h
  split at h
  · exact .inl ‹_›
  · exact .inr ‹_›
  · cases h
theorem chkV_ok {i : Nat} (h : chkV N sc i e = true) : ∃ x p, e = .Name x p ∧ N[i]? = some x ∧ Vis sc x ∧ (x == ("__debug__" : Str)) = false ∧ (x == ("__classdict__" : Str)) = false := by
  unfold chkV at h
  split at h
  · simp only [Bool.and_eq_true, decide_eq_true_eq, nmOk, Bool.not_eq_true'] at h
    exact ⟨_, _, rfl, h.1.1, vis_ok h.1.2, h.2.1, h.2.2⟩
  · cases h
end
end VS

set_option Elab.async false
set_option linter.all false
set_option maxRecDepth 100000
/-! VH: the expressions' soundness. -/
namespace VS
open PySem PySem.Spec PyProof.Rows L2

/-- what the walk must know where a small expression stands -/
def bnames : List Str := ["len", "abs", "int", "sum", "max", "min", "list", "sorted", "all", "any", "range", "isinstance", "bool", "str", "tuple", "dict"]
/-- how a def's changed parameters lie behind it: each at its own slot -/
def Outs (C : Nat → Addr) (w : Wh) (H : Hp) (vs : List V) (os : List (Nat × (D × Md))) : Prop := ∀ j o, os.lookup j = some o → ∃ v, vs[j]? = some v ∧ Rep C w H o.1 o.2 (.s j) v
/-- how a def's parameters lie before it -/
def Ins (C : Nat → Addr) (w : Wh) (H : Hp) (vs : List V) (ds : List (D × Md)) : Prop := ds.length = vs.length ∧ ∀ j d, ds[j]? = some d → ∃ v, vs[j]? = some v ∧ Rep C w H d.1 d.2 (.s j) v
/-- nothing that is owned stands where no object does; tuples are nobody's -/
def Neat (w : Wh) (H : Hp) : Prop := (∀ a, H a = none → w a = .no) ∧ ∀ a us, H a = some (.tup us) → w a = .no ∨ w a = .fz
/-- what is wanted behind a call of a def -/
def FinF (C : Nat → Addr) (vs : List V) (r : Rf) (w : Wh) (H : Hp) (Q : VK) (E : XK) : Prop := match r with
  | .ok x outs => ∀ v w' H', Evo 0 w H w' H' → Neat w' H' → Rep C w' H' x.1 x.2 (.t 0) v → Outs C w' H' vs outs → Q v H'
  | .exc c fs => ∀ dx fv w' H', Evo 0 w H w' H' → Neat w' H' → H' dx = some (.xd fv) → RepF C w' H' fs .fz (.t 0) fv → E (.ref (C c)) (some dx) H'
  | .bad => False
/-- a def's promise, as the evaluator has it -/
def spF (C : Nat → Addr) (g : List (D × Md) → Rf) : Sp := fun vs H Q E => ∃ w ds, Neat w H ∧ Ins C w H vs ds ∧ FinF C vs (g ds) w H Q E
structure Good (P : Pg) (Γ : Ga) (C : Nat → Addr) (T : Tx) (lev : Nat) (X : Cx) (sc : Scope) (W : WX) : Prop where
  nd : X.N.Nodup
  sc : X.env.scope = sc
  calm : X.calm = true
  room : Room (lev + 1) X.A
  pass : ∀ σ, PassesAt (L2.CX X.prog X.w) X σ (WE W σ)
  blt : ∀ x ∈ bnames, X.mg x = none
  fld : ∀ c f, P.fo c f = true → Cls X.K (C c) ∧ NoAttr X.K (C c) f
  mks : ∀ c, T.mc c = true → ∃ (fI : Addr) (fd : FuncData) (ps : List Str), Mk X.K (C c) fI ∧ X.mg (T.cnm c) = some (.ref (C c)) ∧ Binds X.K fd ps [] ∧ FnOk X.prog X.w X.K X.mg X.base (L2.CX X.prog X.w) lev fI fd ps (spF C (Γ (P.ini c)))
  mts : ∀ c m f, P.mth c m = some f → ∃ (fa : Addr) (fd : FuncData) (ps : List Str), Cls X.K (C c) ∧ Meth X.K (C c) m fa ∧ Binds X.K fd ps [] ∧ FnOk X.prog X.w X.K X.mg X.base (L2.CX X.prog X.w) lev fa fd ps (spF C (Γ f))
  fns : ∀ f, T.fk f = true → ∃ (a : Addr) (fd : FuncData) (ps : List Str), X.mg (T.fnm f) = some (.ref a) ∧ PySem.W.keepIn X.K (.ref a) = true ∧ Binds X.K fd ps [] ∧ FnOk X.prog X.w X.K X.mg X.base (L2.CX X.prog X.w) lev a fd ps (spF C (Γ f))
section
variable {P : Pg} {Γ : Ga} {C : Nat → Addr} {T : Tx} {lev : Nat} {X : Cx} {sc : Scope} {W : WX} {n : Nat}
theorem Good.hu (g : Good P Γ C T lev X sc W) : X.A.units + 65 < cLine := by have := g.room.un; omega
theorem Good.glb (g : Good P Γ C T lev X sc W) {x : Str} (h : VS.glb sc x = true) : Gl X x := by
  show X.env.scope.names.lookup x = some .globalImplicit
  rw [g.sc]
  exact glb_ok h
theorem Good.var (g : Good P Γ C T lev X sc W) {i : Nat} {e : Expr} (h : chkV X.N sc i e = true) : PE X e (tVar i) := by
  obtain ⟨x, p, rfl, h1, h2, h3, h4⟩ := chkV_ok h
  exact pe_var h1 (by rw [g.sc]; exact h2) h3 h4
/-- how a test's outcome lies -/
def tT (P : Pg) (Γ : Ga) (C : Nat → Addr) (W : WX) (n : Nat) (c : Ex) : TT := fun σ H Q => ∃ w ρ, Ok C w H ρ σ ∧
  FinG C W n ((look c (ev P Γ c ρ) ρ).bind fun x ρ => match x with | .bl k => .ok k ρ | _ => .bad) (eff P c) w H σ (fun k k' _ _ => k = k') Q
theorem FinG.imp {α β : Type} {r : R α} {e : Bool} {w : Wh} {H : Hp} {σ : L2.St} {L : α → β → Wh → Hp → Prop} {Q Q' : β → Hp → Prop} (h : FinG C W n r e w H σ L Q) (k : ∀ v H', Q v H' → Q' v H') : FinG C W n r e w H σ L Q' := by
  cases r with
  | ok x ρ => exact fun v w' H' a b c d => k v H' (h v w' H' a b c d)
  | exc c fs ρ => exact h
  | bad => exact h
theorem FinT.imp {c : Ex} {σ : L2.St} {H : Hp} {Q Q' : VK} (h : tLk P Γ C W n c σ H Q) (k : ∀ v H', Q v H' → Q' v H') : tLk P Γ C W n c σ H Q' := by
  obtain ⟨w, ρ, o, f⟩ := h
  exact ⟨w, ρ, o, FinG.imp f k⟩
/-- a truth's value, for a test -/
theorem tT_lk {c : Ex} {σ : L2.St} {H : Hp} {Q : Bool → Hp → Prop} (h : tT P Γ C W n c σ H Q) : tLk P Γ C W n c σ H fun x H' => ∃ k, x = .bl k ∧ Q k H' := by
  obtain ⟨w, ρ, k, f⟩ := h
  refine ⟨w, ρ, k, FinG.bind f (fun z => z) fun x ρ1 v w1 H1 _ ev1 k1 l1 s1 f1 => ?_⟩
  cases x with
  | bl b => exact ⟨b, l1.1, FinG.ok (v := b) k1 rfl f1⟩
  | _ => exact f1.elim
theorem tLk_tE {c : Ex} (hc : isVar c = false) {σ : L2.St} {H : Hp} {Q : VK} (h : tLk P Γ C W n c σ H Q) : tE P Γ C W n c σ H Q := by
  obtain ⟨w, ρ, k, f⟩ := h
  refine ⟨w, ρ, k, ?_⟩
  rw [look_nv hc] at f
  rw [← FinG.fin]
  refine FinG.bind f (fun z => z) fun a ρ' v w' H' _ _ k' r s' f' => ?_
  exact FinG.ok k' ⟨Rep.vw _ _ _ r, fun _ => ⟨_, r⟩⟩ f'
/-- a test of an expression whose truth is its value's -/
theorem PT.of {c : Ex} {e : Expr} (h : PE X e (tE P Γ C W n c)) (hv : ∀ i, c = .var i → PE X e (tVar i)) (he : ∀ whole, isTrue e X.env whole = (do let v ← whole; standAt e.pos; holding [v] (truthy v))) : PT X e (tT P Γ C W n c) :=
  PT.imp (pt_val (VS.PE.look h hv) he) fun σ H Q q => tT_lk q
theorem starEach_ok {c : Ex} {e : Expr} {es : List Expr} {N : List Str} {sc : Scope} {env : Env} (h : chkE T N sc c e = true) : starEach (e :: es) env = (false, eval e env) :: starEach es env := by
  cases e with
  | Starred x p => cases c <;> first | (cases h; done) | (simp [chkE, chkV] at h)
  | _ => rfl
theorem nomark_ok {c : Ex} {e : Expr} {N : List Str} {sc : Scope} {op : CmpOp} (h : chkE T N sc c e = true) : behindInMarks op e = false := by
  cases e with
  | Set x k p => cases c <;> first | (cases h; done) | (simp [chkE, chkV] at h)
  | _ => rfl
theorem plainIx_ok {c : Ex} {e : Expr} {N : List Str} {sc : Scope} (h : chkE T N sc c e = true) : PlainIx e := by
  cases e with
  | Slice x k q p => cases c <;> first | (cases h; done) | (simp [chkE, chkV] at h)
  | _ => intro o i; rfl
theorem base_ok {e : Expr} {f : Str} {env : Env} (h : base e = true) : attributeBase e f env (eval e env) = eval e env := by
  unfold attributeBase
  split
  · simp [base] at h
  · rfl

/-! ### one lemma a construct -/
variable {a b c : Ex} {l r m : Expr} {pos : Pos}
theorem FinE.okI {x : D × Md} {e : Bool} {w : Wh} {H : Hp} {ρ : En} {σ : L2.St} {Q : VK} {v : V} (k : Ok C w H ρ σ) (h : FinE C W n (.ok x ρ) e w H σ Q) (l : Rep C w H x.1 x.2 (.t n) v) : Q v H := h v w H .refl k l fun _ => .refl H
theorem FinG.okE {x : D × Md} {e : Bool} {w : Wh} {H : Hp} {ρ : En} {σ : L2.St} {Q : VK} {v : V} (k : Ok C w H ρ σ) (h : FinG C W n (.ok x ρ) e w H σ (fun x v w' H' => Rep C w' H' x.1 x.2 (.t n) v) Q) (l : Rep C w H x.1 x.2 (.t n) v) : Q v H := h v w H .refl k l fun _ => .refl H
theorem PE.binV {op : Bop} (ha : PE X l (tCp P Γ C W n a)) (hb : PE X r (tCp P Γ C W (n + 1) b)) : PE X (.BinOp l (bopO op) r pos) (tE P Γ C W n (.bin op a b)) := by
  refine PE.imp (pe_op (op_bin op) ha hb) fun σ H Q ⟨w, ρ, k, f⟩ => ?_
  have f : FinE C W n ((VS.cpy a (ev P Γ a ρ) ρ).bind fun x ρ => (VS.cpy b (ev P Γ b ρ) ρ).bind fun y ρ => if keptL P a b x then R.opt (binD op x y) ρ else .bad) (eff P a || eff P b) w H σ Q := f
  rw [← FinG.fin] at f
  obtain ⟨w1, ρ1, k1, g⟩ := two_cp (Q := Q) k or_ff f
  refine ⟨w1, ρ1, k1, FinG.imp g fun v1 H1 ⟨w2, ρ2, k2, g2⟩ => ⟨w2, ρ2, k2, FinG.imp g2 fun v2 H2 ⟨w3, ρ3, x, y, k3, c1, c2, f3⟩ => ?_⟩⟩
  obtain ⟨z, e, f4⟩ := FinG.opt0 f3
  rw [FinG.fin] at f4
  exact ⟨C, w3, x, y, z, c1, c2, e, Cont.of k3 (binD_fit e) f4⟩
theorem PE.negV (ha : PE X l (tLk P Γ C W n a)) : PE X (.UnaryOp .USub l pos) (tE P Γ C W n (.neg a)) := by
  refine PE.imp (pe_un un_neg ha) fun σ H Q ⟨w, ρ, k, f⟩ => ?_
  have f : FinE C W n ((VS.look a (ev P Γ a ρ) ρ).bind fun x ρ => match x with
    | .int i => .ok (.int (-i), .dp) ρ
    | _ => .bad) (eff P a) w H σ Q := f
  rw [← FinG.fin] at f
  refine ⟨w, ρ, k, FinG.bind f (fun z => z) fun x ρ1 v w1 H1 _ ev1 k1 l1 s1 f1 => ?_⟩
  cases x with
  | int i => exact ⟨i, l1.1, FinG.okE (v := .int (-i)) k1 f1 rfl⟩
  | _ => exact f1.elim
/-- a comparison's reading -/
theorem cmp_read {op : Cop} {σ : L2.St} {H : Hp} {Q : VK} (h : tE P Γ C W n (.cmp op a b) σ H Q) : tOp (rCmp op) (tLk P Γ C W n a) (tLk P Γ C W (n + 1) b) σ H Q := by
  obtain ⟨w, ρ, k, f⟩ := h
  have f : FinE C W n ((look a (ev P Γ a ρ) ρ).bind fun x ρ => (look b (ev P Γ b ρ) ρ).bind fun y ρ => if keptL P a b x then (R.opt (cmpD op x y) ρ).bind fun k ρ => .ok (.bl k, .dp) ρ else .bad) (eff P a || eff P b) w H σ Q := f
  rw [← FinG.fin] at f
  obtain ⟨w1, ρ1, k1, g⟩ := two_lk (Q := Q) k or_ff f
  refine ⟨w1, ρ1, k1, FinG.imp g fun v1 H1 ⟨w2, ρ2, k2, g2⟩ => ⟨w2, ρ2, k2, FinG.imp g2 fun v2 H2 ⟨w3, ρ3, x, y, k3, c1, c2, f3⟩ => ?_⟩⟩
  obtain ⟨z, e, f4⟩ := FinG.opt f3
  exact ⟨C, x, y, z, c1, c2, e, FinG.okE (v := .bl z) k3 f4 rfl⟩
theorem PE.cmpV {op : Cop} (hu : X.A.units + 65 < cLine) (ha : PE X l (tLk P Γ C W n a)) (hb : PE X r (tLk P Γ C W (n + 1) b)) (hm : behindInMarks (copO op) r = false) : PE X (.Compare l [copO op] [r] pos) (tE P Γ C W n (.cmp op a b)) :=
  PE.imp (pe_cmpR (op_cmp op hu) ha hb hm) fun _ _ _ h => cmp_read h
theorem PT.cmpV {op : Cop} (hu : X.A.units + 65 < cLine) (ha : PE X l (tLk P Γ C W n a)) (hb : PE X r (tLk P Γ C W (n + 1) b)) (hm : behindInMarks (copO op) r = false) : PT X (.Compare l [copO op] [r] pos) (tT P Γ C W n (.cmp op a b)) :=
  PT.imp (pt_cmpR (op_cmp op hu) ha hb hm) fun _ _ _ h => cmp_read (tLk_tE rfl (tT_lk h))
theorem chain_read {op op' : Cop} {σ : L2.St} {H : Hp} {Q : VK} (h : tE P Γ C W n (.chain op op' a b c) σ H Q) : tChain (rCmp op) (rCmp op') (tLk P Γ C W n a) (tLk P Γ C W (n + 1) b) (tLk P Γ C W n c) σ H Q := by
  obtain ⟨w, ρ, k, f⟩ := h
  have f : FinE C W n ((look a (ev P Γ a ρ) ρ).bind fun x ρ => (look b (ev P Γ b ρ) ρ).bind fun y ρ => if prim x && prim y then (R.opt (cmpD op x y) ρ).bind fun k ρ =>
      if k then (look c (ev P Γ c ρ) ρ).bind fun z ρ => (R.opt (cmpD op' y z) ρ).bind fun k ρ => .ok (.bl k, .dp) ρ else .ok (.bl false, .dp) ρ else .bad) (eff P a || eff P b || eff P c) w H σ Q := f
  rw [← FinG.fin] at f
  refine ⟨w, ρ, k, FinG.bind f (fun z => (or_ff (or_ff z).1).1) fun x ρ1 v1 w1 H1 _ ev1 k1 l1 s1 f1 => ⟨w1, ρ1, k1, ?_⟩⟩
  refine FinG.bind (n' := n + 1) f1 (fun z => (or_ff (or_ff z).1).2) fun y ρ2 v2 w2 H2 _ ev2 k2 l2 s2 f2 => ?_
  obtain ⟨hp, f3⟩ := if_bad f2
  rw [Bool.and_eq_true] at hp
  obtain ⟨z, e, f4⟩ := FinG.opt f3
  refine ⟨C, x, y, z, l1.1.prim hp.1, l2.1, e, z, rfl, ?_⟩
  cases z with
  | false => exact FinG.okE (v := .bl false) k2 f4 rfl
  | true =>
    refine ⟨w2, ρ2, k2, FinG.bind f4 (fun z => (or_ff z).2) fun z ρ3 v3 w3 H3 _ ev3 k3 l3 s3 f5 => ?_⟩
    obtain ⟨z', e', f6⟩ := FinG.opt f5
    exact ⟨C, y, z, z', l2.1.prim hp.2, l3.1, e', FinG.okE (v := .bl z') k3 f6 rfl⟩
theorem PE.chainV {op op' : Cop} (hu : X.A.units + 65 < cLine) (ha : PE X l (tLk P Γ C W n a)) (hb : PE X m (tLk P Γ C W (n + 1) b)) (hc : PE X r (tLk P Γ C W n c)) (hm : behindInMarks (copO op') r = false) : PE X (.Compare l [copO op, copO op'] [m, r] pos) (tE P Γ C W n (.chain op op' a b c)) :=
  PE.imp (pe_chain (op_cmp op hu) (op_cmp op' hu) ha hb hc hm) fun _ _ _ h => chain_read h
theorem PT.chainV {op op' : Cop} (hu : X.A.units + 65 < cLine) (ha : PE X l (tLk P Γ C W n a)) (hb : PE X m (tLk P Γ C W (n + 1) b)) (hc : PE X r (tLk P Γ C W n c)) (hm : behindInMarks (copO op') r = false) : PT X (.Compare l [copO op, copO op'] [m, r] pos) (tT P Γ C W n (.chain op op' a b c)) :=
  PT.imp (pt_chain (op_cmp op hu) (op_cmp op' hu) ha hb hc hm) fun _ _ _ h => chain_read (tLk_tE rfl (tT_lk h))
def isNon : D → Bool
  | .non => true
  | _ => false
theorem vw_non {C : Nat → Addr} {H : Hp} {d : D} {v : V} (h : Vw C H d v) : decide (v = .non) = isNon d := by
  cases d with
  | non => rw [show v = _ from h]; rfl
  | bl _ => rw [show v = _ from h]; rfl
  | int _ => rw [show v = _ from h]; rfl
  | str _ => rw [show v = _ from h]; rfl
  | lst _ => obtain ⟨a, _, e, _⟩ := h; subst e; rfl
  | tup _ => obtain ⟨a, _, e, _⟩ := h; subst e; rfl
  | ins _ _ => obtain ⟨a, _, _, e, _⟩ := h; subst e; rfl
  | dK _ => obtain ⟨a, _, e, _⟩ := h; subst e; rfl
  | dT _ => obtain ⟨a, _, e, _⟩ := h; subst e; rfl
theorem isN_read {neg : Bool} {σ : L2.St} {H : Hp} {Q : VK} (h : tE P Γ C W n (.isN neg a) σ H Q) : tLk P Γ C W n a σ H fun v H' => Q (.bl (if neg then !decide (v = .non) else decide (v = .non))) H' := by
  obtain ⟨w, ρ, k, f⟩ := h
  have f : FinE C W n ((look a (ev P Γ a ρ) ρ).bind fun x ρ => match x with
    | .non => .ok (.bl (!neg), .dp) ρ
    | _ => .ok (.bl neg, .dp) ρ) (eff P a) w H σ Q := f
  rw [← FinG.fin] at f
  refine ⟨w, ρ, k, FinG.bind f (fun z => z) fun x ρ1 v w1 H1 _ ev1 k1 l1 s1 f1 => ?_⟩
  rw [vw_non l1.1]
  cases x with
  | non => cases neg <;> exact FinG.okE (v := .bl _) k1 f1 rfl
  | _ => cases neg <;> exact FinG.okE (v := .bl _) k1 f1 rfl
theorem PE.isNV {neg : Bool} {j : Nat} {p2 : Pos} (ha : PE X l (tLk P Γ C W n a)) : PE X (.Compare l [if neg then .IsNot else .Is] [.Constant .none j p2] pos) (tE P Γ C W n (.isN neg a)) := by
  cases neg with
  | false => exact PE.imp (pe_cmpR op_isN ha pe_non rfl) fun σ H Q h => FinT.imp (isN_read h) fun v H' q => ⟨rfl, q⟩
  | true => exact PE.imp (pe_cmpR op_notN ha pe_non rfl) fun σ H Q h => FinT.imp (isN_read h) fun v H' q => ⟨rfl, q⟩
theorem PT.isNV {neg : Bool} {j : Nat} {p2 : Pos} (ha : PE X l (tLk P Γ C W n a)) : PT X (.Compare l [if neg then .IsNot else .Is] [.Constant .none j p2] pos) (tT P Γ C W n (.isN neg a)) := by
  cases neg with
  | false => exact PT.imp (pt_cmpR op_isN ha pe_non rfl) fun σ H Q h => FinT.imp (isN_read (tLk_tE rfl (tT_lk h))) fun v H' q => ⟨rfl, q⟩
  | true => exact PT.imp (pt_cmpR op_notN ha pe_non rfl) fun σ H Q h => FinT.imp (isN_read (tLk_tE rfl (tT_lk h))) fun v H' q => ⟨rfl, q⟩
end
end VS

set_option Elab.async false
set_option linter.all false
set_option maxRecDepth 100000
/-! VI: truths, branches, parts of data. -/
namespace VS
open PySem PySem.Spec PyProof.Rows L2
/-- a truth's outcome -/
def bm : D → En → R Bool := fun x ρ => match x with
  | .bl k => .ok k ρ
  | _ => .bad
theorem bindB {α : Type} (r : R D) (A B : En → R α) : (r.bind fun x ρ => match x with
    | .bl true => A ρ
    | .bl false => B ρ
    | _ => .bad) = (r.bind bm).bind fun k ρ => if k then A ρ else B ρ := by
  cases r with
  | ok x ρ => cases x with
    | bl b => cases b <;> rfl
    | _ => rfl
  | _ => rfl
theorem R.assoc {α β γ : Type} (x : R α) (f : α → En → R β) (g : β → En → R γ) : (x.bind f).bind g = x.bind fun a ρ => (f a ρ).bind g := by cases x <;> rfl
theorem R.bindOk {α : Type} (x : R α) : (x.bind fun a ρ => .ok a ρ) = x := by cases x <;> rfl
section
variable {P : Pg} {Γ : Ga} {C : Nat → Addr} {T : Tx} {lev : Nat} {X : Cx} {sc : Scope} {W : WX} {n : Nat} {a b c : Ex} {l r m e : Expr} {pos : Pos} {ρ : En} {w : Wh} {H : Hp} {σ : L2.St}
def evB (P : Pg) (Γ : Ga) (c : Ex) (ρ : En) : R Bool := (look c (ev P Γ c ρ) ρ).bind bm
theorem tT_def {Q : Bool → Hp → Prop} : tT P Γ C W n c σ H Q = ∃ w ρ, Ok C w H ρ σ ∧ FinG C W n (evB P Γ c ρ) (eff P c) w H σ (fun k k' _ _ => k = k') Q := rfl
theorem FinG.effW {α β : Type} {x : R α} {f f' : Bool} {L : α → β → Wh → Hp → Prop} {Q : β → Hp → Prop} (h : FinG C W n x f w H σ L Q) (he : f = false → f' = false) : FinG C W n x f' w H σ L Q := by
  cases x with
  | ok a ρ' => exact fun v w' H' ev k l s => h v w' H' ev k l fun z => s (he z)
  | exc c fs ρ' => exact h
  | bad => exact h
/-- an inner truth, then what stands behind it -/
theorem tT_of {α β : Type} {f : Bool → En → R α} {ef : Bool} {L' : α → β → Wh → Hp → Prop} {Q : Bool → Hp → Prop} {Q' : β → Hp → Prop} (k : Ok C w H ρ σ)
    (h : FinG C W n ((evB P Γ c ρ).bind f) ef w H σ L' Q') (he : ef = false → eff P c = false)
    (q : ∀ b ρ' w' H', Ok C w' H' ρ' σ → FinG C W n (f b ρ') ef w' H' σ L' Q' → Q b H') : tT P Γ C W n c σ H Q :=
  ⟨w, ρ, k, FinG.bind h he fun b ρ' v w' H' _ ev k' l s f' => by subst l; exact q b ρ' w' H' k' f'⟩
/-- a truth as a value, from its reading as an expression -/
theorem evB_nv (h : isVar c = false) : evB P Γ c ρ = (ev P Γ c ρ).bind fun x ρ => bm x.1 ρ := by
  unfold evB
  rw [look_nv h, R.assoc]
  rfl
theorem ev_bl {x : R Bool} : ((x.bind fun k ρ => .ok (.bl k, .dp) ρ).bind fun (x : D × Md) ρ => bm x.1 ρ) = x := by cases x <;> rfl

/-! ### not -/
theorem ev_not : ev P Γ (.not a) ρ = (evB P Γ a ρ).bind fun k ρ => .ok (.bl (!k), .dp) ρ := by
  show ((look a (ev P Γ a ρ) ρ).bind fun x ρ => match x with
    | .bl k => .ok ((.bl (!k), .dp) : D × Md) ρ
    | _ => .bad) = ((look a (ev P Γ a ρ) ρ).bind bm).bind _
  rw [R.assoc]
  congr 1
  funext x ρ
  cases x <;> rfl
theorem PE.notV (ha : PE X l (tLk P Γ C W n a)) : PE X (.UnaryOp .Not l pos) (tE P Γ C W n (.not a)) := by
  refine PE.imp (pe_not ha) fun σ H Q ⟨w, ρ, k, f⟩ => ?_
  rw [ev_not, ← FinG.fin] at f
  unfold evB at f
  rw [R.assoc] at f
  refine ⟨w, ρ, k, FinG.bind f (fun z => z) fun x ρ1 v w1 H1 _ ev1 k1 l1 s1 f1 => ?_⟩
  cases x with
  | bl b => exact ⟨b, l1.1, FinG.okE (v := .bl (!b)) k1 f1 rfl⟩
  | _ => exact f1.elim
theorem PT.notV (ha : PT X l (tT P Γ C W n a)) : PT X (.UnaryOp .Not l pos) (tT P Γ C W n (.not a)) := by
  refine PT.imp (pt_not ha) fun σ H Q ⟨w, ρ, k, f⟩ => ?_
  have f : FinG C W n (evB P Γ (.not a) ρ) (eff P a) w H σ (fun k k' _ _ => k = k') Q := f
  rw [evB_nv rfl, ev_not, R.assoc] at f
  exact tT_of k f (fun z => z) fun b ρ' w' H' k' f' => FinG.ok (v := !b) k' rfl f'

/-! ### and, or -/
theorem ev_and {es : List Ex} : ev P Γ (.and es) ρ = (evAnd P Γ es ρ).bind fun k ρ => .ok (.bl k, .dp) ρ := rfl
theorem ev_or {es : List Ex} : ev P Γ (.or es) ρ = (evOr P Γ es ρ).bind fun k ρ => .ok (.bl k, .dp) ρ := rfl
theorem evAnd_cons {es : List Ex} : evAnd P Γ (a :: es) ρ = (evB P Γ a ρ).bind fun k ρ => if k then evAnd P Γ es ρ else .ok false ρ := bindB _ _ _
theorem evOr_cons {es : List Ex} : evOr P Γ (a :: es) ρ = (evB P Γ a ρ).bind fun k ρ => if k then .ok true ρ else evOr P Γ es ρ := bindB _ _ _
theorem evB_and {es : List Ex} : evB P Γ (.and es) ρ = evAnd P Γ es ρ := by rw [evB_nv rfl, ev_and, ev_bl]
theorem evB_or {es : List Ex} : evB P Γ (.or es) ρ = evOr P Γ es ρ := by rw [evB_nv rfl, ev_or, ev_bl]
/-- the expressions of a list, each read both ways -/
inductive Al (P : Pg) (Γ : Ga) (C : Nat → Addr) (W : WX) (X : Cx) : List Ex → List Expr → Prop where
  | nil : Al P Γ C W X [] []
  | cons {c : Ex} {cs : List Ex} {e : Expr} {es : List Expr} (h : ∀ n, PE X e (tLk P Γ C W n c)) (h2 : ∀ n, PT X e (tT P Γ C W n c)) (r : Al P Γ C W X cs es) : Al P Γ C W X (c :: cs) (e :: es)
theorem PT.andV : ∀ {cs : List Ex} {es : List Expr}, Al P Γ C W X cs es → cs ≠ [] → ∀ n, PW X (.BoolOp .And es pos) (tT P Γ C W n (.and cs))
  | _, _, .nil, h, _ => absurd rfl h
  | _, _, .cons (c := c) h h2 .nil, _, n => by
    refine ⟨fun wh pins s σ H Q I hw => (pw_and1 (h2 n)).run wh pins s σ H Q I ?_⟩
    obtain ⟨w, ρ, k, f⟩ := hw
    have f : FinG C W n (evB P Γ (.and [c]) ρ) (eff P c || false) w H σ (fun k k' _ _ => k = k') Q := f
    rw [evB_and, evAnd_cons, Bool.or_false] at f
    exact tT_of k f (fun z => z) fun b ρ' w' H' k' f' => by cases b <;> exact FinG.ok k' rfl f'
  | _, _, .cons (c := c) h h2 (.cons (c := c') (cs := cs') h' h2' r), _, n => by
    have ih := PT.andV (.cons h' h2' r) (by simp) n
    refine ⟨fun wh pins s σ H Q I hw => (pw_and (h2 n) ih).run wh pins s σ H Q I ?_⟩
    obtain ⟨w, ρ, k, f⟩ := hw
    have f : FinG C W n (evB P Γ (.and (c :: c' :: cs')) ρ) (eff P c || effL P (c' :: cs')) w H σ (fun k k' _ _ => k = k') Q := f
    rw [evB_and, evAnd_cons] at f
    refine tT_of k f (fun z => (or_ff z).1) fun b ρ' w' H' k' f' => ?_
    cases b with
    | true => exact ⟨w', ρ', k', by show FinG C W n (evB P Γ (.and (c' :: cs')) ρ') _ _ _ _ _ _; rw [evB_and]; exact f'.effW fun z => (or_ff z).2⟩
    | false => exact FinG.ok k' rfl f'
theorem PT.orV : ∀ {cs : List Ex} {es : List Expr}, Al P Γ C W X cs es → cs ≠ [] → ∀ n, PW X (.BoolOp .Or es pos) (tT P Γ C W n (.or cs))
  | _, _, .nil, h, _ => absurd rfl h
  | _, _, .cons (c := c) h h2 .nil, _, n => by
    refine ⟨fun wh pins s σ H Q I hw => (pw_or1 (h2 n)).run wh pins s σ H Q I ?_⟩
    obtain ⟨w, ρ, k, f⟩ := hw
    have f : FinG C W n (evB P Γ (.or [c]) ρ) (eff P c || false) w H σ (fun k k' _ _ => k = k') Q := f
    rw [evB_or, evOr_cons, Bool.or_false] at f
    exact tT_of k f (fun z => z) fun b ρ' w' H' k' f' => by cases b <;> exact FinG.ok k' rfl f'
  | _, _, .cons (c := c) h h2 (.cons (c := c') (cs := cs') h' h2' r), _, n => by
    have ih := PT.orV (.cons h' h2' r) (by simp) n
    refine ⟨fun wh pins s σ H Q I hw => (pw_or (h2 n) ih).run wh pins s σ H Q I ?_⟩
    obtain ⟨w, ρ, k, f⟩ := hw
    have f : FinG C W n (evB P Γ (.or (c :: c' :: cs')) ρ) (eff P c || effL P (c' :: cs')) w H σ (fun k k' _ _ => k = k') Q := f
    rw [evB_or, evOr_cons] at f
    refine tT_of k f (fun z => (or_ff z).1) fun b ρ' w' H' k' f' => ?_
    cases b with
    | false => exact ⟨w', ρ', k', by show FinG C W n (evB P Γ (.or (c' :: cs')) ρ') _ _ _ _ _ _; rw [evB_or]; exact f'.effW fun z => (or_ff z).2⟩
    | true => exact FinG.ok k' rfl f'
theorem PE.andV : ∀ {cs : List Ex} {es : List Expr}, Al P Γ C W X cs es → cs ≠ [] → ∀ n, PE X (.BoolOp .And es pos) (tE P Γ C W n (.and cs))
  | _, _, .nil, h, _ => absurd rfl h
  | _, _, .cons (c := c) h h2 .nil, _, n => by
    refine PE.imp (pe_one (h n)) fun σ H Q ⟨w, ρ, k, f⟩ => ?_
    rw [ev_and, evAnd_cons, ← FinG.fin, R.assoc] at f
    unfold evB at f
    rw [R.assoc] at f
    have he : eff P (.and [c]) = eff P c := by show (eff P c || false) = _; rw [Bool.or_false]
    rw [he] at f
    refine ⟨w, ρ, k, FinG.bind f (fun z => z) fun x ρ1 v w1 H1 _ ev1 k1 l1 s1 f1 => ?_⟩
    cases x with
    | bl b => rw [show v = _ from l1.1]; cases b <;> exact FinG.okE k1 f1 rfl
    | _ => exact f1.elim
  | _, _, .cons (c := c) h h2 (.cons (c := c') (cs := cs') h' h2' r), _, n => by
    refine PE.imp (pe_and (h n) (PE.andV (.cons h' h2' r) (by simp) n)) fun σ H Q ⟨w, ρ, k, f⟩ => ?_
    rw [ev_and, evAnd_cons, ← FinG.fin, R.assoc] at f
    unfold evB at f
    rw [R.assoc] at f
    refine ⟨w, ρ, k, FinG.bind f (fun z => (or_ff z).1) fun x ρ1 v w1 H1 _ ev1 k1 l1 s1 f1 => ?_⟩
    cases x with
    | bl b =>
      refine ⟨b, l1.1, ?_⟩
      cases b with
      | true => exact ⟨w1, ρ1, k1, by rw [← FinG.fin]; exact f1.effW fun z => (or_ff z).2⟩
      | false => exact FinG.okE (v := .bl false) k1 f1 rfl
    | _ => exact f1.elim
theorem PE.orV : ∀ {cs : List Ex} {es : List Expr}, Al P Γ C W X cs es → cs ≠ [] → ∀ n, PE X (.BoolOp .Or es pos) (tE P Γ C W n (.or cs))
  | _, _, .nil, h, _ => absurd rfl h
  | _, _, .cons (c := c) h h2 .nil, _, n => by
    refine PE.imp (pe_one (h n)) fun σ H Q ⟨w, ρ, k, f⟩ => ?_
    rw [ev_or, evOr_cons, ← FinG.fin, R.assoc] at f
    unfold evB at f
    rw [R.assoc] at f
    have he : eff P (.or [c]) = eff P c := by show (eff P c || false) = _; rw [Bool.or_false]
    rw [he] at f
    refine ⟨w, ρ, k, FinG.bind f (fun z => z) fun x ρ1 v w1 H1 _ ev1 k1 l1 s1 f1 => ?_⟩
    cases x with
    | bl b => rw [show v = _ from l1.1]; cases b <;> exact FinG.okE k1 f1 rfl
    | _ => exact f1.elim
  | _, _, .cons (c := c) h h2 (.cons (c := c') (cs := cs') h' h2' r), _, n => by
    refine PE.imp (pe_or (h n) (PE.orV (.cons h' h2' r) (by simp) n)) fun σ H Q ⟨w, ρ, k, f⟩ => ?_
    rw [ev_or, evOr_cons, ← FinG.fin, R.assoc] at f
    unfold evB at f
    rw [R.assoc] at f
    refine ⟨w, ρ, k, FinG.bind f (fun z => (or_ff z).1) fun x ρ1 v w1 H1 _ ev1 k1 l1 s1 f1 => ?_⟩
    cases x with
    | bl b =>
      refine ⟨b, l1.1, ?_⟩
      cases b with
      | false => exact ⟨w1, ρ1, k1, by rw [← FinG.fin]; exact f1.effW fun z => (or_ff z).2⟩
      | true => exact FinG.okE (v := .bl true) k1 f1 rfl
    | _ => exact f1.elim

/-! ### a if t else b -/
theorem ev_ife {t : Ex} : ev P Γ (.ife t a b) ρ = (evB P Γ t ρ).bind fun k ρ => if k then ev P Γ a ρ else ev P Γ b ρ := bindB _ _ _
theorem PE.ifeV {t : Ex} (ht : PT X m (tT P Γ C W n t)) (ha : PE X l (tE P Γ C W n a)) (hb : PE X r (tE P Γ C W n b)) : PE X (.IfExp m l r pos) (tE P Γ C W n (.ife t a b)) := by
  refine PE.imp (pe_ifExp ht ha hb) fun σ H Q ⟨w, ρ, k, f⟩ => ?_
  rw [ev_ife, ← FinG.fin] at f
  refine tT_of k f (fun z => (or_ff (or_ff z).1).1) fun b ρ' w' H' k' f' => ?_
  cases b with
  | true => exact ⟨w', ρ', k', by rw [← FinG.fin]; exact f'.effW fun z => (or_ff (or_ff z).1).2⟩
  | false => exact ⟨w', ρ', k', by rw [← FinG.fin]; exact f'.effW fun z => (or_ff z).2⟩

/-! ### empty dicts -/
theorem PE.dK0V : PE X (.Dict [] [] pos) (tE P Γ C W n .dK0) := PE.imp pe_dnewK fun σ H Q ⟨w, ρ, k, f⟩ => fun p hp =>
  f (.ref p) (own1 w p (.rt (.t n))) _ (Evo.new hp) (k.new hp) ⟨p, [], rfl, by rw [own1_same]; rfl, upd_same, rfl⟩ fun _ => same_new hp
theorem PE.dT0V : PE X (.Dict [] [] pos) (tE P Γ C W n .dT0) := PE.imp pe_dnewT fun σ H Q ⟨w, ρ, k, f⟩ => fun p hp =>
  f (.ref p) (own1 w p (.rt (.t n))) _ (Evo.new hp) (k.new hp) ⟨p, [], rfl, by rw [own1_same]; rfl, upd_same, rfl⟩ fun _ => same_new hp

/-! ### an item, a part, a field -/
theorem Rep.item {i : Id} {d : D} {v : V} (h : Rep C w H d .fz (.s 0) v) : Rep C w H (itemM d).1 (itemM d).2 i v := by
  unfold itemM
  cases hi : VS.imm d with
  | true => exact h.any hi
  | false => exact h.fzId
/-- an item of a built-in container, whatever it is -/
theorem subT_any {pr : Program} {wd : World} {B : Around} {F : Value → Shared → Prop} {z : Shared} {va sl : Expr} {c j : Value} {Ty nm : String} {R : Value → Shared → Prop} (h1 : z.TypeIs c Ty)
    (h2 : typeLookup (.type Ty) "__getitem__" = pure (some (.builtin nm))) (h3 : wpAny (model pr wd) B (getItem c j) R F z) (h4 : subscripted sl false c j = operate [c, j] (getItem c j)) :
    wpAny (model pr wd) B (subscriptTail va sl c j) R F z := by
  have g : wpAny (model pr wd) B (subscripted sl false c j) (fun r z3 => wpAny (model pr wd) B (letTemporaryGo va c r >>= fun _ => pure r) R F z3) F z := by
    rw [h4]; exact wpAny_operating (wpAny_mono h3 (fun r z3 q => wpAny_bind (wpAny_letTemporaryGo (wpAny_pure q))) fun _ _ q => q)
  unfold subscriptTail; refine wpAny_bind ?_; rw [getitemInPython_of_ne h1.not_modules]; refine wpAny_bind (wpAny_specialOf h1 h2 ?_)
  first | exact wpAny_pure (wpAny_bind g) | exact wpAny_bind (wpAny_pure (wpAny_bind g)) | exact wpAny_bind g
theorem ix_dict (hu : X.A.units + 1 < cLine) : IxR X (fun x y H Q => ∃ a v, x = .ref a ∧ DGet H a y (some v) ∧ Q v H) := by
  intro value slice pins s σ H x y v u Q I rx ry h hs
  obtain ⟨a, q0, rfl, g, q⟩ := h
  cases (show v = Value.ref a from rx)
  exact subT_any (dict_typeIs I g) PySem.F.slot_dict_getitem.lookup (d_getItem hu I g ry fun w' s' I' rw' => ⟨q0, H, I', rw', q⟩) hs
theorem RepK.look {i : Id} {m : Md} {k : Key} {d : D} : ∀ {ds : List (Key × D)} {vs : List (Key × V)}, RepK C w H ds m i vs → lkK ds k = some d → ∃ v, valV vs k = some v ∧ Rep C w H d m i v
  | [], _, _, e => by cases e
  | (f, x) :: r, _, ⟨v, vr, q, h1, h2⟩, e => by
    subst q
    unfold lkK at e
    by_cases z : f = k
    · rw [if_pos z] at e
      cases e
      exact ⟨v, valV_pos (p := (f, v)) z, h1⟩
    · rw [if_neg z] at e
      obtain ⟨u, h3, h4⟩ := RepK.look h2 e
      exact ⟨u, by rw [valV_neg (p := (f, v)) z]; exact h3, h4⟩
theorem RepT.look {i : Id} {m : Md} {k : List Key} {d : D} : ∀ {ds : List (List Key × D)} {vs : List (List Key × V)}, RepT C w H ds m i vs → lkK ds k = some d → ∃ v, valV vs k = some v ∧ Rep C w H d m i v
  | [], _, _, e => by cases e
  | (f, x) :: r, _, ⟨v, vr, q, h1, h2⟩, e => by
    subst q
    unfold lkK at e
    by_cases z : f = k
    · rw [if_pos z] at e
      cases e
      exact ⟨v, valV_pos (p := (f, v)) z, h1⟩
    · rw [if_neg z] at e
      obtain ⟨u, h3, h4⟩ := RepT.look h2 e
      exact ⟨u, by rw [valV_neg (p := (f, v)) z]; exact h3, h4⟩
theorem PE.ixV (hu : X.A.units + 1 < cLine) (ha : PE X l (tCp P Γ C W n a)) (hb : PE X r (tLk P Γ C W (n + 1) b)) (hs : PlainIx r) : PE X (.Subscript l r pos) (tE P Γ C W n (.ix a b)) := by
  refine PE.imp (pe_ix (ix_list.or (ix_tup.or (ix_str.or (ix_dict hu)))) ha hb hs) fun σ H Q ⟨w, ρ, k, f⟩ => ?_
  have f : FinE C W n ((VS.cpy a (ev P Γ a ρ) ρ).bind fun x ρ => (VS.look b (ev P Γ b ρ) ρ).bind fun y ρ => if keptL P a b x then (R.opt (ixD x y) ρ).bind fun z ρ => .ok (itemM z) ρ else .bad) (eff P a || eff P b) w H σ Q := f
  rw [← FinG.fin] at f
  obtain ⟨w1, ρ1, k1, g⟩ := two_cl (Q := Q) k or_ff f
  refine ⟨w1, ρ1, k1, FinG.imp g fun v1 H1 ⟨w2, ρ2, k2, g2⟩ => ⟨w2, ρ2, k2, FinG.imp g2 fun v2 H2 ⟨w3, ρ3, x, y, k3, c1, c2, f3⟩ => ?_⟩⟩
  obtain ⟨z, e, f4⟩ := FinG.opt f3
  unfold ixD at e
  split at e
  · obtain ⟨p, vs, e1, hR, rl⟩ := c1
    obtain ⟨v, e2, r2⟩ := rl.atI e
    exact .inl ⟨p, vs, _, v, e1, c2, .inl hR, e2, FinG.okE k3 f4 r2.item⟩
  · obtain ⟨p, vs, e1, _, hR, rl⟩ := c1
    obtain ⟨v, e2, r2⟩ := RepL.atI (m := .fz) rl e
    exact .inr (.inl ⟨p, vs, _, v, e1, c2, .inl (.inl hR), e2, FinG.okE k3 f4 (Rep.item (r2.fzId))⟩)
  · split at e
    · cases q : atI _ _ with
      | none => rw [q] at e; cases e
      | some c =>
        rw [q] at e
        cases e
        rename_i hz
        exact .inr (.inr (.inl ⟨_, _, c, c1, c2, of_decide_eq_true hz, q, FinG.okE (v := .str _) k3 f4 rfl⟩))
    · cases e
  · rename_i kvs
    obtain ⟨p, vs, e1, hR, rl⟩ := c1
    obtain ⟨kk, q1, q2⟩ := Option.bind_eq_some_iff.mp e
    obtain ⟨v, h3, r3⟩ := RepK.look rl q2
    have ev := keyOf_V q1 c2
    subst ev
    exact .inr (.inr (.inr ⟨p, v, e1, by rw [← h3]; exact DGet.k hR, FinG.okE k3 f4 r3.item⟩))
  · rename_i kvs ks
    obtain ⟨p, vs, e1, hR, rl⟩ := c1
    obtain ⟨kk, q1, q2⟩ := Option.bind_eq_some_iff.mp e
    obtain ⟨v, h3, r3⟩ := RepT.look rl q2
    obtain ⟨b, us, e3, hB, hk⟩ := c2
    have ev := keysOf_V q1 hk
    subst ev
    subst e3
    exact .inr (.inr (.inr ⟨p, v, e1, by rw [← h3]; exact DGet.t hR hB, FinG.okE k3 f4 r3.item⟩))
  · cases e
theorem PE.fldV {f : Str} (hf : ∀ c, P.fo c f = true → Cls X.K (C c) ∧ NoAttr X.K (C c) f) (ha : PE X l (tCp P Γ C W n a)) (hb : base l = true) : PE X (.Attribute l f pos) (tE P Γ C W n (.fld a f)) := by
  refine PE.imp (pe_fld ha (base_ok hb)) fun σ H Q ⟨w, ρ, k, g⟩ => ?_
  have g : FinE C W n ((VS.cpy a (ev P Γ a ρ) ρ).bind fun x ρ => match x with
    | .ins c fs => if P.fo c f then (R.opt (fs.lookup f) ρ).bind fun z ρ => .ok (itemM z) ρ else .bad
    | _ => .bad) (eff P a) w H σ Q := g
  rw [← FinG.fin] at g
  refine ⟨w, ρ, k, FinG.bind g (fun z => z) fun x ρ1 v w1 H1 _ ev1 k1 l1 s1 g1 => ?_⟩
  cases x with
  | ins c fs =>
    obtain ⟨hk, g2⟩ := if_bad g1
    obtain ⟨z, e, g3⟩ := FinG.opt g2
    obtain ⟨p, dx, vs, e1, hR, rl⟩ := l1.1
    have key : ∀ {fs : List (Str × D)} {vs : List (Str × V)}, RepF C w1 H1 fs .fz (.s 0) vs → fs.lookup f = some z → ∃ u, vs.lookup f = some u ∧ Rep C w1 H1 z .fz (.s 0) u := fun {fs} => by
      induction fs with
      | nil => intro vs _ q; cases q
      | cons x r ih =>
        intro vs ⟨u, vr, e, h1, h2⟩ q
        subst e
        rw [List.lookup_cons] at q ⊢
        cases hx : f == x.1 with
        | true => rw [hx] at q; cases q; simp only [hx]; exact ⟨u, rfl, h1⟩
        | false => rw [hx] at q; simp only [hx]; exact ih h2 q
    obtain ⟨u, e2, r2⟩ := key rl e
    exact ⟨p, C c, dx, vs, u, e1, hR, (hf c hk).1, (hf c hk).2, e2, FinG.okE k1 g3 r2.item⟩
  | _ => exact g1.elim
/-- a part of a slice -/
def tPo (P : Pg) (Γ : Ga) (C : Nat → Addr) (W : WX) (n : Nat) (cs : List Ex) : TO := fun σ H Q => ∃ w ρ, Ok C w H ρ σ ∧ FinG C W n (evPart P Γ cs ρ) (effL P cs) w H σ (fun o o' _ _ => o = o') Q
theorem PO.imp {o : Option Expr} {t t' : TO} (h : PO X o t) (k : ∀ σ H Q, t' σ H Q → t σ H Q) : PO X o t' := ⟨fun pins s σ H Q I q => h.run pins s σ H Q I (k σ H Q q)⟩
theorem PO.nilV : PO X none (tPo P Γ C W n []) := PO.imp po_none fun σ H Q ⟨w, ρ, k, f⟩ => f none w H .refl k rfl fun _ => .refl H
theorem PO.someV (h : PE X e (tLk P Γ C W n c)) : PO X (some e) (tPo P Γ C W n [c]) := by
  refine PO.imp (po_some h) fun σ H Q ⟨w, ρ, k, f⟩ => ?_
  have f : FinG C W n ((VS.look c (ev P Γ c ρ) ρ).bind fun x ρ => match x with
    | .int i => .ok (some i) ρ
    | _ => .bad) (eff P c || false) w H σ (fun o o' _ _ => o = o') Q := f
  rw [Bool.or_false] at f
  refine ⟨w, ρ, k, FinG.bind f (fun z => z) fun x ρ1 v w1 H1 _ ev1 k1 l1 s1 f1 => ?_⟩
  cases x with
  | int i => exact ⟨i, l1.1, FinG.ok k1 rfl f1⟩
  | _ => exact f1.elim
theorem RepL.cut {i : Id} {m : Md} {ds : List D} {vs : List V} {lo hi : Option Int} (h : RepL C w H ds m i vs) : RepL C w H (cutD ds lo hi) m i (cutV vs lo hi) := by
  unfold cutD cutV
  rw [h.length]
  exact (h.drop _).take _
theorem PE.slcV {lo hi : List Ex} {o o' : Option Expr} {p2 : Pos} (ha : PE X l (tCp P Γ C W n a)) (hl : PO X o (tPo P Γ C W (n + 1) lo)) (hh : PO X o' (tPo P Γ C W (n + 1) hi)) : PE X (.Subscript l (.Slice o o' none p2) pos) (tE P Γ C W n (.slc a lo hi)) := by
  refine PE.imp (pe_slice sl_list ha hl hh) fun σ H Q ⟨w, ρ, k, f⟩ => ?_
  have f : FinE C W n ((VS.cpy a (ev P Γ a ρ) ρ).bind fun x ρ => (evPart P Γ lo ρ).bind fun l ρ => (evPart P Γ hi ρ).bind fun h ρ => if !isVar a || (!effL P lo && !effL P hi) then R.opt (slcD x l h) ρ else .bad) (eff P a || effL P lo || effL P hi) w H σ Q := f
  rw [← FinG.fin] at f
  refine ⟨w, ρ, k, FinG.bind f (fun z => (or_ff (or_ff z).1).1) fun x ρ1 v w1 H1 _ ev1 k1 l1 s1 f1 => ⟨w1, ρ1, k1, ?_⟩⟩
  refine FinG.bind (n' := n + 1) f1 (fun z => (or_ff (or_ff z).1).2) fun y ρ2 v2 w2 H2 _ ev2 k2 l2 s2 f2 => ⟨w2, ρ2, k2, ?_⟩
  refine FinG.bind (n' := n + 1) f2 (fun z => (or_ff z).2) fun z ρ3 v3 w3 H3 _ ev3 k3 l3 s3 f3 => ?_
  subst l2 l3
  obtain ⟨hk, f4⟩ := if_bad f3
  obtain ⟨u, e, f5⟩ := FinG.opt0 f4
  have cp : Cp C w3 H3 x v := by
    cases hv : isVar a with
    | false => exact (((l1.2 hv).evo (Nat.lt_succ_self n) ev2).evo (Nat.lt_succ_self n) ev3).cp (.inl rfl)
    | true =>
      rw [hv] at hk
      simp only [Bool.not_true, Bool.false_or, Bool.and_eq_true, Bool.not_eq_true'] at hk
      exact (l1.1.same ev2 (s2 hk.1)).same ev3 (s3 hk.2)
  unfold slcD at e
  split at e
  · cases e
    obtain ⟨p, vs, e1, hR, rl⟩ := cp
    refine ⟨p, vs, e1, .inl hR, fun q hq => ?_⟩
    rw [FinG.fin] at f5
    exact (Cont.of k3 (fit_lstM _) f5).ls _ rfl q _ hq rl.cut
  · cases e
end
end VS

set_option Elab.async false
set_option linter.all false
set_option maxRecDepth 100000
/-! VJ: calls of defs. -/
namespace VS
open PySem PySem.Spec PyProof.Rows L2
section
variable {P : Pg} {Γ : Ga} {C : Nat → Addr} {T : Tx} {lev : Nat} {X : Cx} {sc : Scope} {W : WX} {n : Nat} {a b c : Ex} {l r m e : Expr} {pos : Pos} {ρ : En} {w : Wh} {H : Hp} {σ : L2.St}
theorem outOf_sl {as : List Arg} {io : List Bool} {j i : Nat} (h : outOf as io j = some i) : as[j]? = some (.sl i) ∧ io[j]? = some true ∧ j < as.length := by
  unfold outOf at h
  split at h
  · rename_i k e1 e2
    cases h
    exact ⟨e1, e2, (List.getElem?_eq_some_iff.mp e1).1⟩
  · cases h
theorem inAt_out {as : List Arg} {io : List Bool} {j i : Nat} (h : inAt as io i = some j) : outOf as io j = some i := by
  unfold inAt at h
  simpa using List.find?_some h
theorem argsOk_at {as : List Arg} {io : List Bool} {j j' i : Nat} (ho : argsOk as io = true) (h : outOf as io j = some i) (h' : as[j']? = some (.sl i)) : j = j' := by
  obtain ⟨_, _, hj⟩ := outOf_sl h
  have hj' := (List.getElem?_eq_some_iff.mp h').1
  have q := List.all_eq_true.mp ho j (List.mem_range.mpr hj)
  rw [h] at q
  have q2 := List.all_eq_true.mp q j' (List.mem_range.mpr hj')
  rw [h'] at q2
  simpa [isSl] using q2
theorem inAt_of {as : List Arg} {io : List Bool} {j i : Nat} (ho : argsOk as io = true) (h : outOf as io j = some i) : inAt as io i = some j := by
  cases q : inAt as io i with
  | some k => rw [argsOk_at ho h (outOf_sl (inAt_out q)).1]
  | none =>
    have z := List.find?_eq_none.mp q j (List.mem_range.mpr (outOf_sl h).2.2)
    rw [h] at z
    simp at z
/-- arguments as they lie: names, values under way -/
def RepG (C : Nat → Addr) (w : Wh) (H : Hp) (σ : L2.St) : Nat → List Arg → List V → Prop
  | _, [], vs => vs = []
  | n, .sl i :: r, vs => ∃ v vr, vs = v :: vr ∧ σ[i]? = some (some v) ∧ RepG C w H σ (n + 1) r vr
  | n, .vl d m :: r, vs => ∃ v vr, vs = v :: vr ∧ Rep C w H d m (.t n) v ∧ RepG C w H σ (n + 1) r vr
theorem RepG.get : ∀ {as : List Arg} {n : Nat} {vs : List V}, RepG C w H σ n as vs → vs.length = as.length ∧ ∀ (j : Nat) (a : Arg), as[j]? = some a → ∃ v, vs[j]? = some v ∧ match a with
    | .sl i => σ[i]? = some (some v)
    | .vl d m => Rep C w H d m (.t (n + j)) v
  | [], _, _, h => by rw [show _ = [] from h]; exact ⟨rfl, fun j a q => by simp at q⟩
  | .sl i :: r, n, _, ⟨v, vr, e, h1, h2⟩ => by
    subst e
    obtain ⟨hl, hg⟩ := RepG.get h2
    refine ⟨by rw [List.length_cons, List.length_cons, hl], fun j a q => ?_⟩
    cases j with
    | zero => cases q; exact ⟨v, rfl, h1⟩
    | succ j =>
      obtain ⟨u, e1, e2⟩ := hg j a (by simpa using q)
      refine ⟨u, by simpa using e1, ?_⟩
      cases a with
      | sl k => exact e2
      | vl d m => have e3 : n + 1 + j = n + (j + 1) := by omega
                  rw [← e3]; exact e2
  | .vl d m :: r, n, _, ⟨v, vr, e, h1, h2⟩ => by
    subst e
    obtain ⟨hl, hg⟩ := RepG.get h2
    refine ⟨by rw [List.length_cons, List.length_cons, hl], fun j a q => ?_⟩
    cases j with
    | zero => cases q; exact ⟨v, rfl, h1⟩
    | succ j =>
      obtain ⟨u, e1, e2⟩ := hg j a (by simpa using q)
      refine ⟨u, by simpa using e1, ?_⟩
      cases a with
      | sl k => exact e2
      | vl d m => have e3 : n + 1 + j = n + (j + 1) := by omega
                  rw [← e3]; exact e2
theorem argsD_get : ∀ {as : List Arg} {io : List Bool} {ds : List (D × Md)}, argsD ρ as io = some ds → ds.length = as.length ∧ ∀ (j : Nat) (d : D × Md), ds[j]? = some d → ∃ a b, as[j]? = some a ∧ io[j]? = some b ∧ argD ρ a b = some d
  | [], [], _, h => by cases h; exact ⟨rfl, fun j d q => by simp at q⟩
  | a :: r, b :: bs, ds, h => by
    unfold argsD at h
    cases q1 : argD ρ a b with
    | none => rw [q1] at h; cases h
    | some d0 =>
      rw [q1] at h
      cases q2 : argsD ρ r bs with
      | none => simp [q2] at h
      | some dr =>
        simp [q2] at h
        subst h
        obtain ⟨hl, hg⟩ := argsD_get q2
        refine ⟨by rw [List.length_cons, List.length_cons, hl], fun j d q => ?_⟩
        cases j with
        | zero => simp at q; subst q; exact ⟨a, b, rfl, rfl, q1⟩
        | succ j => obtain ⟨a', b', e1, e2, e3⟩ := hg j d (by simpa using q); exact ⟨a', b', by simpa using e1, by simpa using e2, e3⟩
  | [], _ :: _, _, h => by cases h
  | _ :: _, [], _, h => by cases h

/-! ### owners at a call and behind it -/
section
variable (as : List Arg) (io : List Bool) (n : Nat)
/-- a value under way is handed in to be changed -/
def tmpIo (j : Nat) : Bool := match as[j]?, io[j]? with
  | some (.vl _ _), some true => true
  | _, _ => false
/-- whose is it for the callee -/
def toC : Own → Own
  | .no => .no
  | .fz => .fz
  | .rt (.s i) => match inAt as io i with
    | some j => .rt (.s j)
    | none => if as.any (isSl i) then .fz else .no
  | .sb (.s i) => match inAt as io i with
    | some j => .sb (.s j)
    | none => if as.any (isSl i) then .fz else .no
  | .rt (.t k) => if n ≤ k then (if tmpIo as io (k - n) then .rt (.s (k - n)) else .fz) else .no
  | .sb (.t k) => if n ≤ k then (if tmpIo as io (k - n) then .sb (.s (k - n)) else .fz) else .no
/-- and back -/
def frC : Own → Own
  | .no => .no
  | .fz => .fz
  | .rt (.t k) => if k = 0 then .rt (.t n) else .no
  | .sb (.t k) => if k = 0 then .sb (.t n) else .no
  | .rt (.s j) => match outOf as io j with
    | some i => .rt (.s i)
    | none => if tmpIo as io j then .rt (.t (n + j)) else .no
  | .sb (.s j) => match outOf as io j with
    | some i => .sb (.s i)
    | none => if tmpIo as io j then .sb (.t (n + j)) else .no
/-- what is the callee's to change, of what stood before -/
def mine : Own → Bool
  | .rt (.s i) => (inAt as io i).isSome
  | .sb (.s i) => (inAt as io i).isSome
  | .rt (.t k) => decide (n ≤ k) && tmpIo as io (k - n)
  | .sb (.t k) => decide (n ≤ k) && tmpIo as io (k - n)
  | _ => false
/-- what it lent comes back, or is shared -/
def keepC (free : Bool) : Own → Own
  | .rt (.t k) => if n ≤ k then .fz else .rt (.t k)
  | .sb (.t k) => if n ≤ k then .fz else .sb (.t k)
  | .rt (.s i) => if as.any (isSl i) && !free then .fz else .rt (.s i)
  | .sb (.s i) => if as.any (isSl i) && !free then .fz else .sb (.s i)
  | o => o
def wBack (free : Bool) (w : Wh) (H : Hp) (w' : Wh) : Wh := fun a => match H a with
  | none => frC as io n (w' a)
  | some _ => if mine as io n (w a) then frC as io n (w' a) else if w a = .no ∧ w' a = .fz then .fz else keepC as n free (w a)
end
theorem toC_mine {as : List Arg} {io : List Bool} {o : Own} (h : mine as io n o = false) : toC as io n o = .no ∨ toC as io n o = .fz := by
  cases o with
  | no => exact .inl rfl
  | fz => exact .inr rfl
  | rt k =>
    cases k with
    | s i =>
      have h : (inAt as io i).isSome = false := h
      unfold toC
      cases q : inAt as io i with
      | none => simp only [q]; cases as.any (isSl i) <;> simp
      | some j => rw [q] at h; cases h
    | t k =>
      have h : (decide (n ≤ k) && tmpIo as io (k - n)) = false := h
      unfold toC
      dsimp only
      by_cases hk : n ≤ k
      · rw [decide_eq_true hk, Bool.true_and] at h
        rw [if_pos hk, h]
        exact .inr rfl
      · rw [if_neg hk]
        exact .inl rfl
  | sb k =>
    cases k with
    | s i =>
      have h : (inAt as io i).isSome = false := h
      unfold toC
      cases q : inAt as io i with
      | none => simp only [q]; cases as.any (isSl i) <;> simp
      | some j => rw [q] at h; cases h
    | t k =>
      have h : (decide (n ≤ k) && tmpIo as io (k - n)) = false := h
      unfold toC
      dsimp only
      by_cases hk : n ≤ k
      · rw [decide_eq_true hk, Bool.true_and] at h
        rw [if_pos hk, h]
        exact .inr rfl
      · rw [if_neg hk]
        exact .inl rfl
theorem held0 {o : Own} (h : o = .no ∨ o = .fz) : Held 0 o := by rcases h with h | h; exact .inl h; exact .inr (.inl h)
theorem lookup_mem {α : Type} : ∀ {l : List (Nat × α)} {j : Nat} {x : α}, l.lookup j = some x → (j, x) ∈ l
  | [], _, _, h => by cases h
  | (k, y) :: r, j, x, h => by
    rw [List.lookup_cons] at h
    cases q : j == k with
    | true => rw [q] at h; cases h; rw [beq_iff_eq.mp q]; exact List.mem_cons_self
    | false => rw [q] at h; exact List.mem_cons_of_mem _ (lookup_mem h)
section
variable {as : List Arg} {io : List Bool} {vs : List V} {ds : List (D × Md)} {w' : Wh} {H' : Hp} {free : Bool}
theorem toC_in {i j : Nat} {m : Md} {o : Own} (h : inAt as io i = some j) (e : o = Md.own (.s i) m) : toC as io n o = Md.own (.s j) m := by
  subst e
  cases m <;> simp [Md.own, toC, h]
theorem toC_lent {i : Nat} {m : Md} {o : Own} (h : inAt as io i = none) (hl : as.any (isSl i) = true) (e : o = Md.own (.s i) m) : toC as io n o = .fz := by
  subst e
  cases m <;> simp [Md.own, toC, h, hl]
theorem toC_t {k : Nat} {m : Md} {o : Own} (h : n ≤ k) (ht : tmpIo as io (k - n) = false) (e : o = Md.own (.t k) m) : toC as io n o = .fz := by
  subst e
  cases m <;> simp [Md.own, toC, h, ht]
theorem toC_ti {k j : Nat} {m : Md} {o : Own} (h : k = n + j) (ht : tmpIo as io j = true) (e : o = Md.own (.t k) m) : toC as io n o = Md.own (.s j) m := by
  subst e h
  have : n + j - n = j := by omega
  cases m <;> simp [Md.own, toC, this, ht]
theorem frC_t {m : Md} {o : Own} (e : o = Md.own (.t 0) m) : frC as io n o = Md.own (.t n) m := by
  subst e
  cases m <;> simp [Md.own, frC]
theorem frC_s {i j : Nat} {m : Md} {o : Own} (h : outOf as io j = some i) (e : o = Md.own (.s j) m) : frC as io n o = Md.own (.s i) m := by
  subst e
  cases m <;> simp [Md.own, frC, h]
theorem frC_ti {j : Nat} {m : Md} {o : Own} (h : tmpIo as io j = true) (e : o = Md.own (.s j) m) : frC as io n o = Md.own (.t (n + j)) m := by
  have h2 : outOf as io j = none := by
    unfold tmpIo at h
    unfold outOf
    split at h
    · rename_i e1 e2
      rw [e1, e2]
    · cases h
  subst e
  cases m <;> simp [Md.own, frC, h, h2]
theorem any_isSl {i j : Nat} (h : as[j]? = some (.sl i)) : as.any (isSl i) = true := List.any_eq_true.mpr ⟨_, List.mem_of_getElem? h, by simp [isSl]⟩
/-- what the callee finds -/
theorem ins_of (k : Ok C w H ρ σ) (ga : RepG C w H σ n as vs) (ho : argsOk as io = true) (hd : argsD ρ as io = some ds) : Ins C (fun a => toC as io n (w a)) H vs ds := by
  obtain ⟨hl, hg⟩ := ga.get
  obtain ⟨hl2, hg2⟩ := argsD_get hd
  refine ⟨by rw [hl2, hl], fun j d hj => ?_⟩
  obtain ⟨x, b, e1, e2, e3⟩ := hg2 j d hj
  obtain ⟨v, hv, hr⟩ := hg j x e1
  refine ⟨v, hv, ?_⟩
  have toFz : ∀ {d : D} {m : Md} {i : Id}, (∀ (m : Md) (o : Own), o = Md.own i m → toC as io n o = .fz) → Rep C w H d m i v → Rep C (fun a => toC as io n (w a)) H d .fz (.s j) v := fun {d m i} q r => by
    have key : ∀ m : Md, Keeps w (fun a => toC as io n (w a)) H H m .fz i (.s j) := fun m => ⟨fun _ => rfl, fun a o e z => ⟨q m _ z, e⟩, fun a o e z => ⟨q .fz _ z, e⟩⟩
    exact Rep.map d m .fz v (key m) (key _) r
  have imz : ∀ {d : D}, Rep C (fun a => toC as io n (w a)) H d .fz (.s j) v → Rep C (fun a => toC as io n (w a)) H d (if VS.imm d then .dp else .fz) (.s j) v := fun {d} r => by
    cases hi : VS.imm d with
    | true => exact r.any hi
    | false => exact r
  cases x with
  | vl d0 m0 =>
    unfold argD at e3
    dsimp only at e3
    have hr : Rep C w H d0 m0 (.t (n + j)) v := hr
    cases b with
    | true =>
      rw [if_pos rfl] at e3
      have ht : tmpIo as io j = true := by unfold tmpIo; rw [e1, e2]
      split at e3
      · cases e3
        have key : ∀ m : Md, Keeps w (fun a => toC as io n (w a)) H H m m (.t (n + j)) (.s j) := fun m => ⟨fun h => h, fun a o e z => ⟨toC_ti rfl ht z, e⟩, fun a o e z => ⟨toC_ti (m := .fz) rfl ht z, e⟩⟩
        exact Rep.map d0 m0 m0 v (key m0) (key _) hr
      · cases e3
    | false =>
      cases e3
      have ht : tmpIo as io (n + j - n) = false := by
        have : n + j - n = j := by omega
        rw [this]
        unfold tmpIo
        rw [e1, e2]
      exact imz (toFz (fun m o e => toC_t (Nat.le_add_right n j) ht e) hr)
  | sl i =>
    unfold argD at e3
    dsimp only at e3
    cases q : slot ρ i with
    | none => rw [q] at e3; cases e3
    | some dm =>
      obtain ⟨d0, m0⟩ := dm
      rw [q] at e3
      have e3 : (if b = true then (if m0 = .rt ∨ m0 = .dp then some (d0, m0) else none) else some (d0, if VS.imm d0 then Md.dp else .fz)) = some d := e3
      obtain ⟨v', h1, h2⟩ := k.rep i d0 m0 (slot_some q)
      have hr : σ[i]? = some (some v) := hr
      rw [hr] at h1
      cases h1
      cases b with
      | true =>
        have hi : inAt as io i = some j := inAt_of ho (by unfold outOf; rw [e1, e2])
        rw [if_pos rfl] at e3
        split at e3
        · cases e3
          have key : ∀ m : Md, Keeps w (fun a => toC as io n (w a)) H H m m (.s i) (.s j) := fun m => ⟨fun h => h, fun a o e z => ⟨toC_in hi z, e⟩, fun a o e z => ⟨toC_in (m := .fz) hi z, e⟩⟩
          exact Rep.map d0 m0 m0 v (key m0) (key _) h2
        · cases e3
      | false =>
        rw [if_neg Bool.false_ne_true] at e3
        cases e3
        have hi : inAt as io i = none := by
          cases z : inAt as io i with
          | none => rfl
          | some j' =>
            have z2 := inAt_out z
            have := argsOk_at ho z2 e1
            subst this
            have z3 := (outOf_sl z2).2.1
            rw [e2] at z3
            cases z3
        exact imz (toFz (fun m o e => toC_lent hi (any_isSl e1) e) h2)
theorem neat_of (k : Ok C w H ρ σ) : Neat (fun a => toC as io n (w a)) H :=
  ⟨fun a h => by dsimp only; rw [k.nn a h]; rfl, fun a us h => by
    dsimp only
    rcases k.tp a us h with e | e
    · rw [e]; exact .inl rfl
    · rw [e]; exact .inr rfl⟩
/-- what was not the callee's to change -/
theorem back_kept (ev : Evo 0 (fun a => toC as io n (w a)) H w' H') {q : Addr} {o : HO} (h : H q = some o) (hm : mine as io n (w q) = false) : H' q = some o ∧ (w' q = toC as io n (w q) ∨ (toC as io n (w q) = .no ∧ w' q = .fz ∧ ∃ vs, o = .tup vs)) :=
  ⟨ev.kH q o h (held0 (toC_mine hm)), ev.kW q o h (held0 (toC_mine hm))⟩
theorem back_evo (ev : Evo 0 (fun a => toC as io n (w a)) H w' H') : Evo n w H (wBack as io n free w H w') H' where
  kH := fun q o h hd => (back_kept ev h (by rcases hd with e | e | ⟨j, hj, e | e⟩ <;> rw [e] <;> first | rfl | simp [mine, Nat.not_le.mpr hj])).1
  kW := fun q o h hd => by
    have hm : mine as io n (w q) = false := by rcases hd with e | e | ⟨j, hj, e | e⟩ <;> rw [e] <;> first | rfl | simp [mine, Nat.not_le.mpr hj]
    unfold wBack
    rw [h]
    dsimp only
    rw [hm, if_neg Bool.false_ne_true]
    rcases hd with e | e | ⟨j, hj, e | e⟩
    · by_cases f : w' q = .fz
      · rw [if_pos ⟨e, f⟩]
        refine .inr ⟨e, rfl, ?_⟩
        rcases (back_kept ev h hm).2 with y | y
        · rw [e, f] at y; cases y
        · exact y.2.2
      · rw [if_neg fun z => f z.2, e]; exact .inl rfl
    · rw [if_neg (fun z => by rw [e] at z; cases z.1), e]; exact .inl rfl
    · rw [if_neg (fun z => by rw [e] at z; cases z.1), e]; simp [keepC, Nat.not_le.mpr hj]
    · rw [if_neg (fun z => by rw [e] at z; cases z.1), e]; simp [keepC, Nat.not_le.mpr hj]
  al := ev.al
/-- a tree that the callee holds, behind the call -/
theorem back_own (ev : Evo 0 (fun a => toC as io n (w a)) H w' H') {q : Addr} {m : Md} {i0 i1 : Id} (hi : ∀ (m : Md) (o : Own), o = Md.own i0 m → frC as io n o = Md.own i1 m) (hm : m ≠ .fz) (h : w' q = Md.own i0 m) : wBack as io n free w H w' q = Md.own i1 m := by
  unfold wBack
  cases e : H q with
  | none => dsimp only; exact hi m _ h
  | some o =>
    dsimp only
    cases z : mine as io n (w q) with
    | true => rw [if_pos rfl]; exact hi m _ h
    | false =>
      rcases (back_kept ev e z).2 with this | this
      · rw [h] at this
        rcases toC_mine (n := n) z with y | y <;> rw [y] at this <;> cases m <;> first | exact absurd rfl hm | cases this
      · have this := this.2.1
        rw [h] at this
        cases m <;> first | exact absurd rfl hm | cases this
theorem back_fz (k : Ok C w H ρ σ) (ev : Evo 0 (fun a => toC as io n (w a)) H w' H') {q : Addr} (h : w' q = .fz) (hf : free = false ∨ ∃ us, H' q = some (.tup us)) : wBack as io n free w H w' q = .fz := by
  unfold wBack
  cases e : H q with
  | none => dsimp only; rw [h]; rfl
  | some o =>
    dsimp only
    cases z : mine as io n (w q) with
    | true => rw [if_pos rfl, h]; rfl
    | false =>
      rw [if_neg Bool.false_ne_true]
      by_cases hno : w q = .no
      · rw [if_pos ⟨hno, h⟩]
      rw [if_neg fun z => hno z.1]
      obtain ⟨h1, h2⟩ := back_kept ev e z
      rw [h] at h2
      have h2 : (Own.fz = toC as io n (w q)) ∨ (free = false ∧ toC as io n (w q) = .no) := by
        rcases h2 with h2 | ⟨h2, _, us, h3⟩
        · exact .inl h2
        · subst h3
          rcases k.tp q us e with y | y
          · exact absurd y hno
          · rw [y] at h2; cases h2
      have h2 : Own.fz = toC as io n (w q) := h2.elim id fun z2 => by
        exact absurd z2.2 (by
          intro z3
          rcases (back_kept ev e z).2 with y | ⟨y, _, us, y3⟩
          · rw [h, z3] at y; cases y
          · subst y3
            rcases k.tp q us e with y4 | y4
            · exact hno y4
            · rw [y4] at z3; cases z3)
      have tp : free = false ∨ w q = .no ∨ w q = .fz := hf.imp id fun ⟨us, u⟩ => k.tp q us (by rw [e]; rw [h1] at u; exact u)
      cases y : w q with
      | no => exact absurd y hno
      | fz => rfl
      | rt j =>
        rw [y] at h2 tp z
        have fr : free = false := by rcases tp with t | t | t; exact t; cases t; cases t
        subst fr
        cases j with
        | s i =>
          have z : (inAt as io i).isSome = false := z
          cases x : inAt as io i with
          | some j => rw [x] at z; cases z
          | none =>
            have h2 : Own.fz = match inAt as io i with
              | some j => Own.rt (.s j)
              | none => if as.any (isSl i) then .fz else .no := h2
            rw [x] at h2
            show (if (as.any (isSl i) && !false) = true then Own.fz else .rt (.s i)) = .fz
            cases u : as.any (isSl i) with
            | true => rfl
            | false => rw [u] at h2; cases h2
        | t j =>
          have h2 : Own.fz = if n ≤ j then (if tmpIo as io (j - n) then .rt (.s (j - n)) else .fz) else .no := h2
          show (if n ≤ j then Own.fz else .rt (.t j)) = .fz
          split
          · rfl
          · rename_i u; rw [if_neg u] at h2; cases h2
      | sb j =>
        rw [y] at h2 tp z
        have fr : free = false := by rcases tp with t | t | t; exact t; cases t; cases t
        subst fr
        cases j with
        | s i =>
          have z : (inAt as io i).isSome = false := z
          cases x : inAt as io i with
          | some j => rw [x] at z; cases z
          | none =>
            have h2 : Own.fz = match inAt as io i with
              | some j => Own.sb (.s j)
              | none => if as.any (isSl i) then .fz else .no := h2
            rw [x] at h2
            show (if (as.any (isSl i) && !false) = true then Own.fz else .sb (.s i)) = .fz
            cases u : as.any (isSl i) with
            | true => rfl
            | false => rw [u] at h2; cases h2
        | t j =>
          have h2 : Own.fz = if n ≤ j then (if tmpIo as io (j - n) then .sb (.s (j - n)) else .fz) else .no := h2
          show (if n ≤ j then Own.fz else .sb (.t j)) = .fz
          split
          · rfl
          · rename_i u; rw [if_neg u] at h2; cases h2
theorem back_rep (k : Ok C w H ρ σ) (ev : Evo 0 (fun a => toC as io n (w a)) H w' H') {i0 i1 : Id} {d : D} {m : Md} {v : V} (hi : ∀ (m : Md) (o : Own), o = Md.own i0 m → frC as io n o = Md.own i1 m) (hf : free = false ∨ m = .dp) (r0 : Rep C w' H' d m i0 v) : Rep C (wBack as io n free w H w') H' d m i1 v := by
  have key : ∀ m : Md, free = false ∨ m ≠ .fz → Keeps w' (wBack as io n free w H w') H' H' m m i0 i1 := fun m hf => ⟨fun h => h, fun q o e h => ⟨by
    by_cases hm : m = .fz
    · subst hm
      exact back_fz k ev h (hf.elim .inl fun z => absurd rfl z)
    · exact back_own ev hi hm h, e⟩, fun q us e h => ⟨back_fz k ev h (.inr ⟨us, e⟩), e⟩⟩
  refine Rep.map d m m v (key m (hf.imp id fun z => by rw [z]; decide)) (key _ (hf.imp id fun z => by rw [z]; decide)) r0
theorem back_repF (k : Ok C w H ρ σ) (ev : Evo 0 (fun a => toC as io n (w a)) H w' H') {d : List (Str × D)} {v : List (Str × V)} (r0 : RepF C w' H' d .fz (.t 0) v) : RepF C (wBack as io n false w H w') H' d .fz (.t n) v := by
  have key : Keeps w' (wBack as io n false w H w') H' H' .fz .fz (.t 0) (.t n) := ⟨fun h => h, fun q o e h => ⟨back_fz k ev h (.inl rfl), e⟩, fun q us e h => ⟨back_fz k ev h (.inl rfl), e⟩⟩
  exact RepF.map d _ _ v key key r0
/-- the slots behind the call -/
theorem back_ok (k : Ok C w H ρ σ) (ga : RepG C w H σ n as vs) (ev : Evo 0 (fun a => toC as io n (w a)) H w' H') (nt : Neat w' H') {outs : List (Nat × (D × Md))} (ro : Outs C w' H' vs outs) (hf : free = false ∨ (outs.all fun o => decide (o.2.2 = .dp)) = true) : Ok C (wBack as io n free w H w') H' (putOuts free as io outs ρ) σ := by
  obtain ⟨hl, hg⟩ := ga.get
  refine ⟨by unfold putOuts; rw [List.length_mapIdx]; exact k.len, fun i d m e => ?_, fun q h => ?_, fun q us h => ?_⟩
  · unfold putOuts at e
    rw [List.getElem?_mapIdx] at e
    cases hx : ρ[i]? with
    | none => rw [hx] at e; cases e
    | some x =>
      rw [hx] at e
      have e : (match inAt as io i with
        | some j => outs.lookup j
        | none => if (as.any (isSl i) && !free) = true then x.map (fun dm => (dm.1, Md.fz)) else x) = some (d, m) := Option.some.inj e
      cases hi : inAt as io i with
      | some j =>
        rw [hi] at e
        obtain ⟨v, hv, hr⟩ := ro j _ e
        have ho := inAt_out hi
        obtain ⟨v', hv', hs⟩ := hg j _ (outOf_sl ho).1
        rw [hv] at hv'
        cases hv'
        refine ⟨v, hs, back_rep k ev (fun m o z => frC_s ho z) (hf.imp id fun z => ?_) hr⟩
        exact of_decide_eq_true (List.all_eq_true.mp z _ (lookup_mem e))
      | none =>
        rw [hi] at e
        have kk : ∀ {m m' : Md}, (∀ m : Md, m = .fz → m = .fz) → (m = .fz → m' = .fz) → (∀ o : Own, o = Md.own (.s i) m → keepC as n free o = Md.own (.s i) m') → Keeps w (wBack as io n free w H w') H H' m m' (.s i) (.s i) := fun {m m'} _ hz q => by
          have nm : ∀ {m : Md} {o : Own}, o = Md.own (.s i) m → mine as io n o = false := fun {m o} z => by
            subst z
            cases m <;> simp [Md.own, mine, hi]
          refine ⟨hz, fun a o z y => ⟨?_, (back_kept ev z (nm y)).1⟩, fun a us z y => ⟨?_, (back_kept ev z (nm (m := .fz) y)).1⟩⟩
          · unfold wBack; rw [z]; dsimp only; rw [nm y, if_neg Bool.false_ne_true, if_neg fun z => own_no y z.1]; exact q _ y
          · unfold wBack; rw [z]; dsimp only; rw [nm (m := .fz) y, if_neg Bool.false_ne_true, y, if_neg (by simp)]; rfl
        cases hb : as.any (isSl i) && !free with
        | true =>
          rw [hb] at e
          cases x with
          | none => cases e
          | some dm =>
            obtain ⟨d0, m0⟩ := dm
            have e : (d0, Md.fz) = (d, m) := Option.some.inj e
            cases e
            obtain ⟨v, hs, hr⟩ := k.rep i d m0 hx
            have q : ∀ (m : Md) (o : Own), o = Md.own (.s i) m → keepC as n free o = Md.own (.s i) .fz := fun m o z => by
              subst z
              cases m <;> simp only [Md.own, keepC, hb, if_true]
            exact ⟨v, hs, Rep.map d m0 .fz v (kk (fun _ h => h) (fun _ => rfl) (q _)) (kk (fun _ h => h) (fun _ => rfl) (q _)) hr⟩
        | false =>
          rw [hb] at e
          dsimp only at e
          rw [if_neg Bool.false_ne_true] at e
          subst e
          obtain ⟨v, hs, hr⟩ := k.rep i d m hx
          have q : ∀ (m : Md) (o : Own), o = Md.own (.s i) m → keepC as n free o = Md.own (.s i) m := fun m o z => by
            subst z
            cases m <;> simp [Md.own, keepC, hb]
          exact ⟨v, hs, Rep.map d m m v (kk (fun _ h => h) (fun h => h) (q _)) (kk (fun _ h => h) (fun h => h) (q _)) hr⟩
  · unfold wBack
    rw [ev.al q h, nt.1 q h]
    rfl
  · have tr : ∀ {o : Own}, o = .no ∨ o = .fz → frC as io n o = .no ∨ frC as io n o = .fz := fun z => by rcases z with z | z <;> subst z; exact .inl rfl; exact .inr rfl
    unfold wBack
    cases e : H q with
    | none => exact tr (nt.2 q us h)
    | some o =>
      dsimp only
      cases z : mine as io n (w q) with
      | true => rw [if_pos rfl]; exact tr (nt.2 q us h)
      | false =>
        rw [if_neg Bool.false_ne_true]
        have h1 := (back_kept ev e z).1
        rw [h] at h1
        rcases k.tp q us (by rw [e, h1]) with y | y <;> rw [y]
        · split
          · exact .inr rfl
          · exact .inl rfl
        · exact .inr rfl
/-- a call, its result and its changed arguments still at hand -/
theorem call_glueX {e : Bool} {Q : VK} {g : List (D × Md) → Rf} (k : Ok C w H ρ σ) (ga : RepG C w H σ n as vs) (he : e = false → io.any id = false) (ho : argsOk as io = true) (hd : argsD ρ as io = some ds)
    (f : match g ds with
      | .ok x outs => ∀ v w2 H2, Evo n w H w2 H2 → Ok C w2 H2 (putOuts (decide (x.2 = .dp) && outs.all fun o => decide (o.2.2 = .dp)) as io outs ρ) σ → Rep C w2 H2 x.1 x.2 (.t n) v →
          (∀ j o, tmpIo as io j = true → outs.lookup j = some o → ∃ u, vs[j]? = some u ∧ Rep C w2 H2 o.1 o.2 (.t (n + j)) u) → (e = false → Same H H2) → Q v H2
      | .exc c fs => FinE C W n (.exc c fs (putOuts false as io [] ρ)) e w H σ Q
      | .bad => False) : spF C g vs H Q (WE W σ) := by
  refine ⟨fun a => toC as io n (w a), ds, neat_of k, ins_of k ga ho hd, ?_⟩
  cases hr : g ds with
  | ok x outs =>
    rw [hr] at f
    intro v w' H' ev nt rx ro
    have hx : (decide (x.2 = .dp) && outs.all fun o => decide (o.2.2 = .dp)) = false ∨ x.2 = .dp := by
      cases z : decide (x.2 = .dp) with
      | false => exact .inl rfl
      | true => exact .inr (of_decide_eq_true z)
    have hf : (decide (x.2 = .dp) && outs.all fun o => decide (o.2.2 = .dp)) = false ∨ (outs.all fun o => decide (o.2.2 = .dp)) = true := by
      cases z : outs.all fun o => decide (o.2.2 = .dp) with
      | false => exact .inl (Bool.and_false _)
      | true => exact .inr rfl
    refine f v _ H' (back_evo ev) (back_ok k ga ev nt ro hf) (back_rep k ev (fun m o z => frC_t z) hx rx) (fun j o hj hl => ?_) fun z => fun q o hq => ?_
    · obtain ⟨u, hu, hr⟩ := ro j o hl
      exact ⟨u, hu, back_rep k ev (fun m o z => frC_ti hj z) (hf.imp id fun z => by exact of_decide_eq_true (List.all_eq_true.mp z (j, o) (lookup_mem hl))) hr⟩
    · refine (back_kept ev hq ?_).1
      have no : ∀ i, inAt as io i = none := fun i => by
        cases y : inAt as io i with
        | none => rfl
        | some j =>
          have := he z
          rw [List.any_eq_false] at this
          exact absurd rfl (this true (List.mem_of_getElem? (outOf_sl (inAt_out y)).2.1))
      have no2 : ∀ j, tmpIo as io j = false := fun j => by
        unfold tmpIo
        split
        · rename_i y _ y2
          have := he z
          rw [List.any_eq_false] at this
          exact absurd rfl (this true (List.mem_of_getElem? y2))
        · rfl
      unfold mine
      split
      · rw [no]; rfl
      · rw [no]; rfl
      · rw [no2, Bool.and_false]
      · rw [no2, Bool.and_false]
      · rfl
  | exc c fs =>
    rw [hr] at f
    intro dx fv w' H' ev nt hx rf
    exact f dx fv _ H' (back_evo ev) (back_ok k ga ev nt (fun j o z => by cases z) (.inl rfl)) hx (back_repF k ev rf)
  | bad => rw [hr] at f; exact f.elim
theorem call_glue {e : Bool} {Q : VK} {g : List (D × Md) → Rf} (k : Ok C w H ρ σ) (ga : RepG C w H σ n as vs) (he : e = false → io.any id = false) (ho : argsOk as io = true) (hd : argsD ρ as io = some ds)
    (f : FinE C W n (match g ds with
      | .ok r outs => .ok r (putOuts (decide (r.2 = .dp) && outs.all fun o => decide (o.2.2 = .dp)) as io outs ρ)
      | .exc c fs => .exc c fs (putOuts false as io [] ρ)
      | .bad => .bad) e w H σ Q) : spF C g vs H Q (WE W σ) := by
  refine call_glueX k ga he ho hd ?_
  cases hr : g ds with
  | ok x outs =>
    rw [hr] at f
    exact fun v w2 H2 ev k2 r2 _ s2 => f v w2 H2 ev k2 r2 s2
  | exc c fs => rw [hr] at f; exact f
  | bad => rw [hr] at f; exact f
end
end
end VS

set_option Elab.async false
set_option linter.all false
set_option maxRecDepth 100000
/-! VK: calls, built-ins, isinstance, pop. -/
namespace VS
open PySem PySem.Spec PyProof.Rows L2
section
variable {P : Pg} {Γ : Ga} {C : Nat → Addr} {T : Tx} {lev : Nat} {X : Cx} {sc : Scope} {W : WX} {n : Nat} {a b c : Ex} {l r m e : Expr} {pos : Pos} {ρ : En} {w : Wh} {H : Hp} {σ : L2.St} {cs : List Ex} {es : List Expr}
/-! ### argument lists of defs -/
def tAg (P : Pg) (Γ : Ga) (C : Nat → Addr) (W : WX) (n : Nat) (es : List Ex) : TA := fun σ H Q => ∃ w ρ, Ok C w H ρ σ ∧ FinG C W n (evArgs P Γ es ρ) (effL P es) w H σ (fun as vs w' H' => RepG C w' H' σ n as vs) Q
theorem PA.nilG : PA X [] (tAg P Γ C W n []) := PA.imp pa_nil fun σ H Q ⟨w, ρ, k, f⟩ => f [] w H .refl k rfl fun _ => .refl H
theorem evArgs_nv (h : isVar c = false) : evArgs P Γ (c :: cs) ρ = (ev P Γ c ρ).bind fun x ρ => (evArgs P Γ cs ρ).bind fun as ρ => .ok (.vl x.1 x.2 :: as) ρ := by
  cases c <;> first | rfl | (simp [isVar] at h)
theorem PA.consG (h : PE X e (tE P Γ C W n c)) (hv : ∀ i, c = .var i → PE X e (tVar i)) (hr : PA X es (tAg P Γ C W (n + 1) cs)) (hs : starEach (e :: es) X.env = (false, eval e X.env) :: starEach es X.env) : PA X (e :: es) (tAg P Γ C W n (c :: cs)) := by
  cases hc : isVar c with
  | true =>
    obtain ⟨i, rfl⟩ : ∃ i, c = .var i := by cases c <;> first | exact ⟨_, rfl⟩ | (simp [isVar] at hc)
    refine PA.imp (pa_cons (hv i rfl) hr hs) fun σ H Q ⟨w, ρ, k, f⟩ => ?_
    have f : FinG C W n ((R.opt (slot ρ i) ρ).bind fun _ ρ => (evArgs P Γ cs ρ).bind fun as ρ => .ok (.sl i :: as) ρ) (false || effL P cs) w H σ (fun as vs w' H' => RepG C w' H' σ n as vs) Q := f
    obtain ⟨z, e1, f2⟩ := FinG.opt f
    obtain ⟨v, h1, _⟩ := k.rep i z.1 z.2 (slot_some e1)
    refine ⟨v, h1, w, ρ, k, ?_⟩
    refine FinG.bind (n' := n + 1) f2 (fun z => (or_ff z).2) fun as ρ1 vs w1 H1 _ ev1 k1 r1 s1 f3 => ?_
    exact FinG.ok k1 ⟨v, vs, rfl, h1, r1⟩ f3
  | false =>
    refine PA.imp (pa_cons h hr hs) fun σ H Q ⟨w, ρ, k, f⟩ => ?_
    rw [evArgs_nv hc] at f
    have f : FinG C W n ((ev P Γ c ρ).bind fun x ρ => (evArgs P Γ cs ρ).bind fun as ρ => .ok (.vl x.1 x.2 :: as) ρ) (eff P c || effL P cs) w H σ (fun as vs w' H' => RepG C w' H' σ n as vs) Q := f
    refine ⟨w, ρ, k, ?_⟩
    rw [← FinG.fin]
    refine FinG.bind f (fun z => (or_ff z).1) fun x ρ1 v1 w1 H1 _ ev1 k1 r1 s1 f1 => ⟨w1, ρ1, k1, ?_⟩
    refine FinG.bind (n' := n + 1) f1 (fun z => (or_ff z).2) fun as ρ2 vs w2 H2 _ ev2 k2 r2 s2 f2 => ?_
    exact FinG.ok k2 ⟨v1, vs, rfl, r1.evo (Nat.lt_succ_self n) ev2, r2⟩ f2
theorem stars_plain {N : List Str} {env : Env} : ∀ {cs : List Ex} {es : List Expr}, chkL T N sc cs es = true → (backTo pos (starEach es env)).any (·.1) = false
  | [], [], _ => rfl
  | [], _ :: _, h => by simp [chkL] at h
  | _ :: _, [], h => by simp [chkL] at h
  | c :: cs, e :: es, h => by
    simp only [chkL, Bool.and_eq_true] at h
    rw [starEach_ok h.1]
    show (false || (backTo pos (starEach es env)).any (·.1)) = false
    rw [stars_plain h.2]
    rfl
theorem stars_few {N : List Str} {env : Env} : ∀ {cs : List Ex} {es : List Expr}, chkL T N sc cs es = true → (backTo pos (starEach es env)).all (fun x => !x.1) = true
  | [], [], _ => rfl
  | [], _ :: _, h => by simp [chkL] at h
  | _ :: _, [], h => by simp [chkL] at h
  | c :: cs, e :: es, h => by
    simp only [chkL, Bool.and_eq_true] at h
    rw [starEach_ok h.1]
    show (true && (backTo pos (starEach es env)).all (fun x => !x.1)) = true
    rw [stars_few h.2]
    rfl
/-- f(e, ..), f a def -/
theorem PE.callV {f : Nat} {x : Str} {p : Pos} (g : Good P Γ C T lev X sc W) (hf : T.fk f = true) (hx : x = T.fnm f) (hg : VS.glb sc x = true) (hd : nmOk x = true) (ha : PA X (e :: es) (tAg P Γ C W n cs)) (hc : chkL T X.N sc cs (e :: es) = true) : PE X (.Call (.Name x p) (e :: es) [] pos) (tE P Γ C W n (.call f cs)) := by
  obtain ⟨fa, fd, ps, h1, h2, h3, F⟩ := g.fns f hf
  subst hx
  have hnm : (T.fnm f == ("__debug__" : Str)) = false := by
    simp only [nmOk, Bool.and_eq_true, Bool.not_eq_true'] at hd
    exact hd.1
  have hs : chkE T X.N sc (cs.headD .hole) e = true ∧ chkL T X.N sc cs.tail es = true := by
    cases cs with
    | nil => simp [chkL] at hc
    | cons c cs => simpa [chkL] using hc
  refine PE.imp (pe_callS F (g.room.mono (Nat.le_succ _)) (g.glb hg) h1 h2 h3 g.pass ha hnm (starEach_ok hs.1) (stars_plain hs.2)) fun σ H Q ⟨w, ρ, k, f0⟩ => ?_
  have f0 : FinE C W n ((evArgs P Γ cs ρ).bind fun as ρ => callD Γ f (P.io f) as ρ) ((P.io f).any id || effL P cs) w H σ Q := f0
  rw [← FinG.fin] at f0
  refine ⟨w, ρ, k, FinG.bind f0 (fun z => (or_ff z).2) fun as ρ1 vs w1 H1 _ ev1 k1 r1 s1 f1 => ?_⟩
  unfold callD at f1
  obtain ⟨ho, f2⟩ := if_bad f1
  cases hd2 : argsD ρ1 as (P.io f) with
  | none => rw [hd2] at f2; exact f2.elim
  | some ds =>
    rw [hd2] at f2
    refine call_glue k1 r1 (fun z => (or_ff z).1) ho hd2 (e := (P.io f).any id || effL P cs) ?_
    rw [← FinG.fin]
    dsimp only at f2
    cases hz : Γ f ds with
    | ok r outs => rw [hz] at f2; exact f2
    | exc c fs => rw [hz] at f2; exact f2
    | bad => rw [hz] at f2; exact f2

/-! ### new objects -/
/-- C(..), what the maker lets out taken at the slots σ -/
theorem make_at {X : Cx} {CX : CXT} {k : Nat} {fI Ca : Addr} {fd : FuncData} {ps : List Str} {sp : Sp} {Ex : XK} {pins : List (Addr × Obj)} {σ : L2.St} {H : Hp} {s : Shared} {Q : VK} {us : List Value} {vs : List V} (M : Mk X.K Ca fI) (Fo : FnOk X.prog X.w X.K X.mg X.base CX k fI fd ps sp)
    (room : Room (k + 1) X.A) (bi : Binds X.K fd ps []) (pa : PassesAt CX X σ Ex) (J : Inv X pins σ H s) (rv : Vals vs us)
    (prom : ∀ x dx, H x = none → H dx = none → dx ≠ x → sp (.ref x :: vs) (upd (upd H dx (.own x)) x (.ins Ca dx [])) (fun v H2 => v = .non ∧ Q (.ref x) H2) Ex) : wpAny (model X.prog X.w) X.A (call (.ref Ca) us) (EP X pins σ Q) X.xe s := by
  have z0 : s.heap.objs.size ≠ s.heap.objs.size + 1 := Nat.ne_of_lt (Nat.lt_succ_self _)
  have asked := prom (s.heap.objs.size + 1) s.heap.objs.size (J.hok.fresh (Nat.le_succ _)) (J.hok.fresh (Nat.le_refl _)) z0
  have J2 := Inv.made (C := Ca) J
  have all : Vals (V.ref (s.heap.objs.size + 1) :: vs) (Value.ref (s.heap.objs.size + 1) :: us) := .cons rfl rv
  have len : ((Value.ref (s.heap.objs.size + 1) :: us) ++ []).length = ps.length := by
    rw [List.append_nil, ← all.length]
    exact Fo.len _ _ _ _ asked
  have bound := bi _ (Value.ref (s.heap.objs.size + 1) :: us) J2.kIn len
  rw [List.append_nil] at bound
  have hm := room.make Ca us []
  refine wpAny_call (make_map (f := fI) J.kIn M.makes M.init (beq_iff_eq.mp M.fn) (codeAny_mono (Fo.run _ X.stack _ _ ⟨Value.ref (s.heap.objs.size + 1) :: us, []⟩ _ _ _ Ex hm (J2.env0.make Ca us []) bound all asked) fun r s' got => ?_))
  match r, got with
  | .error u, got => exact pa pins _ _ u s' J2 got
  | .ok (.ret u), got =>
    obtain ⟨v, H', J3, rel, isN, goal⟩ := J2.after got
    subst isN
    exact ⟨rel, V.ref (s.heap.objs.size + 1), H', J3, rfl, goal⟩
  | .ok .next, got => exact got.elim
  | .ok .brk, got => exact got.elim
  | .ok .cont, got => exact got.elim
theorem PE.mkV {k : Nat} {x : Str} {p : Pos} (g : Good P Γ C T lev X sc W) (hf : T.mc k = true) (hx : x = T.cnm k) (hg : VS.glb sc x = true) (hd : nmOk x = true) (ha : PA X (e :: es) (tAg P Γ C W (n + 1) cs)) (hc : chkL T X.N sc cs (e :: es) = true) : PE X (.Call (.Name x p) (e :: es) [] pos) (tE P Γ C W n (.mk k cs)) := by
  obtain ⟨fI, fd, ps, h1, h2, h3, Fo⟩ := g.mks k hf
  subst hx
  have hnm : (T.cnm k == ("__debug__" : Str)) = false := by
    simp only [nmOk, Bool.and_eq_true, Bool.not_eq_true'] at hd
    exact hd.1
  have hs : chkE T X.N sc (cs.headD .hole) e = true ∧ chkL T X.N sc cs.tail es = true := by
    cases cs with
    | nil => simp [chkL] at hc
    | cons c cs => simpa [chkL] using hc
  refine ⟨fun pins s σ H Q I ⟨w, ρ, kk, f0⟩ => ?_⟩
  have f0 : FinE C W n ((evArgs P Γ cs ρ).bind fun as ρ => mkD Γ k (P.ini k) (P.io (P.ini k)) as ρ) ((P.io (P.ini k)).any id || effL P cs) w H σ Q := f0
  rw [← FinG.fin] at f0
  refine wpAny_Call_Name_kw (ld_glob I (g.glb hg) h2 ?_ hnm)
  have rd : tAg P Γ C W (n + 1) cs σ H fun vs H1 => ∃ w1 ρ1 as, Evo n w H w1 H1 ∧ Ok C w1 H1 ρ1 σ ∧ RepG C w1 H1 σ (n + 1) as vs ∧ FinE C W n (mkD Γ k (P.ini k) (P.io (P.ini k)) as ρ1) ((P.io (P.ini k)).any id || effL P cs) w1 H1 σ Q :=
    ⟨w, ρ, kk, FinG.bind (n' := n + 1) f0 (fun z => (or_ff z).2) fun as ρ1 vs w1 H1 _ ev1 k1 r1 s1 f1 => ⟨w1, ρ1, as, ev1.weak (Nat.le_succ n), k1, r1, by rw [← FinG.fin]; exact f1⟩⟩
  refine PySem.W.callWith_K (h₀ := X.base) I.ok.mod.kin h1.kp (thn (ha.run pos pins s σ H _ I rd) fun us s1 ⟨vs, H1, I1, r, w1, ρ1, as, ev1, k1, rg, f1⟩ => ⟨I1.kIn, ?_⟩) (starEach_ok hs.1) (stars_plain hs.2)
  refine make_at h1 Fo g.room h3 (g.pass σ) I1 r fun x dx nx ndx hne => ?_
  unfold mkD at f1
  dsimp only at f1
  rw [← FinG.fin] at f1
  obtain ⟨ho, f2⟩ := if_bad f1
  rw [Bool.and_eq_true, decide_eq_true_eq] at ho
  have nx2 : upd H1 dx (.own x) x = none := by rw [upd_ne (Ne.symm hne)]; exact nx
  have k2 : Ok C (own1 (own1 w1 dx .no) x (.rt (.t n))) (upd (upd H1 dx (.own x)) x (.ins (C k) dx [])) ρ1 σ := (k1.new ndx (ow := .no)).new nx2
  have e2 : Evo n w1 H1 (own1 (own1 w1 dx .no) x (.rt (.t n))) (upd (upd H1 dx (.own x)) x (.ins (C k) dx [])) := (Evo.new ndx).trans (Evo.new nx2)
  have rg2 : RepG C (own1 (own1 w1 dx .no) x (.rt (.t n))) (upd (upd H1 dx (.own x)) x (.ins (C k) dx [])) σ n (.vl (.ins k []) .dp :: as) (.ref x :: vs) := by
    refine ⟨.ref x, vs, rfl, ⟨x, dx, [], rfl, by rw [own1_same]; rfl, upd_same, rfl⟩, ?_⟩
    have go : ∀ {as : List Arg} {m : Nat} {vs : List V}, RepG C w1 H1 σ m as vs → RepG C (own1 (own1 w1 dx .no) x (.rt (.t n))) (upd (upd H1 dx (.own x)) x (.ins (C k) dx [])) σ m as vs := fun {as} => by
      induction as with
      | nil => intro m vs q; exact q
      | cons a as ih =>
        intro m vs q
        cases a with
        | sl i => obtain ⟨v, vr, e, h1, h2⟩ := q; exact ⟨v, vr, e, h1, ih h2⟩
        | vl d mm => obtain ⟨v, vr, e, h1, h2⟩ := q; exact ⟨v, vr, e, (h1.new ndx).new nx2, ih h2⟩
    exact go rg
  cases hd2 : argsD ρ1 (.vl (.ins k []) .dp :: as) (P.io (P.ini k)) with
  | none => rw [hd2] at f2; exact f2.elim
  | some ds =>
    rw [hd2] at f2
    dsimp only at f2
    have ht : tmpIo (.vl (.ins k []) .dp :: as) (P.io (P.ini k)) 0 = true := by
      unfold tmpIo
      rw [ho.2]
      rfl
    refine call_glueX (e := (P.io (P.ini k)).any id || effL P cs) k2 rg2 (fun z => (or_ff z).1) ho.1 hd2 ?_
    cases hz : Γ (P.ini k) ds with
    | ok r outs =>
      rw [hz] at f2
      dsimp only at f2
      intro v w2 H2 ev k3 rr ro sm
      cases hr1 : r.1 with
      | non =>
        rw [hr1] at f2 rr
        cases hl : outs.lookup 0 with
        | none => rw [hl] at f2; exact f2.elim
        | some o =>
          rw [hl] at f2
          obtain ⟨u, hu, ru⟩ := ro 0 o ht hl
          cases hu
          refine ⟨rr, f2 (.ref x) w2 H2 (e2.trans ev) k3 ru fun z => ?_⟩
          have := (or_ff z).1
          rw [List.any_eq_false] at this
          exact absurd rfl (this true (List.mem_of_getElem? ho.2))
      | _ => rw [hr1] at f2; exact f2.elim
    | exc c fs =>
      rw [hz] at f2
      exact FinE.evo e2 (fun z => by
        have := (or_ff z).1
        rw [List.any_eq_false] at this
        exact absurd rfl (this true (List.mem_of_getElem? ho.2))) f2
    | bad => rw [hz] at f2; exact f2.elim

/-! ### methods -/
theorem meth_text {o : Expr} {m : Str} {es : List Expr} {ap : Pos} {env : Env} (hb : attributeBase o m env (eval o env) = eval o env) (hl : (ap.endLine == pos.line) = true) (hn : es.length < 29) (hs : (backTo pos (starEach es env)).all (fun x => !x.1) = true) : eval (.Call (.Attribute o m ap) es [] pos) env = (do
      let ov ← eval o env
      standAt ap.atName
      let (f, first) ← holding [ov] (getMethod ov m (do return (← importBound o env).getD true))
      callWith pos f first (backTo pos (starEach es env)) (backToKw pos (keywordEach [] env))) := by
  have form : methodCallForm (es.length + ([] : List Keyword).length) (backTo pos (starEach es env)) (backToKw pos (keywordEach [] env)) = true := by
    unfold methodCallForm
    rw [hs]
    show (true && true && decide (es.length + 0 + 0 < 30)) = true
    rw [decide_eq_true (by omega)]
    rfl
  have at_ : methodCallPos true o env ap pos = pure pos := by unfold methodCallPos; simp [hl]
  show (do
    let ov ← attributeBase o m env (eval o env)
    standAt ap.atName
    methodCall o m ap pos env ov (es.length + ([] : List Keyword).length) (backTo pos (starEach es env)) (backToKw pos (keywordEach [] env))) = _
  rw [hb]
  unfold methodCall calleeOf
  rw [form, at_]
  simp
theorem PE.methV {i : Nat} {m : Str} {o : Expr} {es : List Expr} {ap : Pos} (g : Good P Γ C T lev X sc W) (hln : (ap.endLine == pos.line) = true) (hle : es.length < 29) (hv : chkV X.N sc i o = true) (ha : PA X es (tAg P Γ C W (n + 1) cs)) (hc : chkL T X.N sc cs es = true) : PE X (.Call (.Attribute o m ap) es [] pos) (tE P Γ C W n (.meth i m cs)) := by
  have pv := g.var hv
  obtain ⟨xo, po, rfl, _⟩ := chkV_ok hv
  refine ⟨fun pins s σ H Q I ⟨w, ρ, kk, f0⟩ => ?_⟩
  have f0 : FinE C W n (match slot ρ i with
    | some (.ins c fs, _) => (match P.mth c m, fs.lookup m with
      | some f, none => (evArgs P Γ cs ρ).bind fun as ρ => callD Γ f (P.io f) (.sl i :: as) ρ
      | _, _ => .bad)
    | _ => .bad) true w H σ Q := f0
  split at f0
  · rename_i c fs mm hs
    split at f0
    · rename_i f hf hl
      obtain ⟨fa, fd, ps, cl, mt, bi, Fo⟩ := g.mts c m f hf
      obtain ⟨v, hv1, a, dx, vs0, e1, hw, hH, hr⟩ := kk.rep i _ _ (slot_some hs)
      subst e1
      have hl2 : vs0.lookup m = none := by
        have key : ∀ {fs : List (Str × D)} {vs : List (Str × V)} {mo : Md} {id : Id}, RepF C w H fs mo id vs → fs.lookup m = none → vs.lookup m = none := fun {fs} => by
          induction fs with
          | nil => intro vs mo id q _; rw [show vs = [] from q]; rfl
          | cons x r ih =>
            intro vs mo id ⟨u, vr, e, q1, q2⟩ z
            subst e
            rw [List.lookup_cons] at z ⊢
            cases hx : m == x.1 with
            | true => rw [hx] at z; cases z
            | false => rw [hx] at z; simp only [hx]; exact ih q2 z
        exact key hr hl
      rw [← FinG.fin] at f0
      have rd : tAg P Γ C W (n + 1) cs σ H fun vs H1 => ∃ w1 ρ1 as, Ok C w1 H1 ρ1 σ ∧ Evo n w H w1 H1 ∧ RepG C w1 H1 σ (n + 1) as vs ∧ FinE C W n (callD Γ f (P.io f) (.sl i :: as) ρ1) true w1 H1 σ Q :=
        ⟨w, ρ, kk, FinG.bind (n' := n + 1) f0 (fun z => by cases z) fun as ρ1 vs w1 H1 _ ev1 k1 r1 s1 f1 => ⟨w1, ρ1, as, k1, ev1.weak (Nat.le_succ n), r1, by rw [← FinG.fin]; exact f1⟩⟩
      have last : ∀ {H1 : Hp} {vs : List V}, (∃ w1 ρ1 as, Ok C w1 H1 ρ1 σ ∧ Evo n w H w1 H1 ∧ RepG C w1 H1 σ (n + 1) as vs ∧ FinE C W n (callD Γ f (P.io f) (.sl i :: as) ρ1) true w1 H1 σ Q) → spF C (Γ f) (.ref a :: vs) H1 Q (WE W σ) := fun {H1 vs} ⟨w1, ρ1, as, k1, _, r1, f1⟩ => by
        unfold callD at f1
        rw [← FinG.fin] at f1
        obtain ⟨ho, f2⟩ := if_bad f1
        cases hd2 : argsD ρ1 (.sl i :: as) (P.io f) with
        | none => rw [hd2] at f2; exact f2.elim
        | some ds =>
          rw [hd2] at f2
          refine call_glue (n := n) k1 (as := .sl i :: as) ⟨.ref a, vs, rfl, hv1, r1⟩ (fun z => by cases z) ho hd2 (e := true) ?_
          rw [← FinG.fin]
          dsimp only at f2
          cases hz : Γ f ds with
          | ok r outs => rw [hz] at f2; exact f2
          | exc c fs => rw [hz] at f2; exact f2
          | bad => rw [hz] at f2; exact f2
      cases es with
      | nil =>
        cases cs with
        | cons _ _ => simp [chkL] at hc
        | nil =>
          refine PySem.W.methodCall_KW (thn (pv.run pins s σ H (fun x H1 => x = .ref a ∧ H1 = H) I ⟨.ref a, hv1, rfl, rfl⟩) fun u s1 ⟨x, H1, I1, rx, ex, eH⟩ => ?_) (meth_text rfl hln hle (stars_few hc))
          subst ex
          subst eH
          obtain rfl : u = Value.ref a := rx
          refine getmeth_ok I1 hH cl mt hl2 ?_
          obtain ⟨w1, ρ1, k1, f1⟩ := rd
          have q := f1 [] w1 H1 .refl k1 rfl fun _ => .refl H1
          exact PySem.W.callWith_K0 (first := [.ref a]) I1.kIn mt.kp (run_fnS (us := [.ref a]) (vs := [V.ref a]) Fo (g.room.mono (Nat.le_succ _)) bi (g.pass σ) I1 (.cons rfl .nil) (last q))
      | cons e es =>
        have hs : chkE T X.N sc (cs.headD .hole) e = true ∧ chkL T X.N sc cs.tail es = true := by
          cases cs with
          | nil => simp [chkL] at hc
          | cons c cs => simpa [chkL] using hc
        refine PySem.W.methodCall_KW (thn (pv.run pins s σ H (fun x H1 => x = .ref a ∧ H1 = H) I ⟨.ref a, hv1, rfl, rfl⟩) fun u s1 ⟨x, H1, I1, rx, ex, eH⟩ => ?_) (meth_text rfl hln hle (stars_few hc))
        subst ex
        subst eH
        obtain rfl : u = Value.ref a := rx
        refine getmeth_ok I1 hH cl mt hl2 ?_
        exact PySem.W.callWith_K (first := [.ref a]) (h₀ := X.base) I.ok.mod.kin mt.kp (thn (ha.run pos pins s1 σ H1 _ I1 rd) fun us s2 ⟨vs, H2, I2, r, q2⟩ => ⟨I2.kIn, run_fnS (us := .ref a :: us) (vs := V.ref a :: vs) Fo (g.room.mono (Nat.le_succ _)) bi (g.pass σ) I2 (.cons rfl r) (last q2)⟩) (starEach_ok hs.1) (stars_plain hs.2)
    · exact f0.elim
  · exact f0.elim

/-! ### built-ins -/
theorem PE.biV {b : Bi} {p : Pos} (g : Good P Γ C T lev X sc W) (hg : VS.glb sc (biN b) = true) (ha : PA X (e :: es) (tAl P Γ C W n b.cp cs)) (hc : chkL T X.N sc cs (e :: es) = true) : PE X (.Call (.Name (biN b) p) (e :: es) [] pos) (tE P Γ C W n (.bi b cs)) := by
  have hs : chkE T X.N sc (cs.headD .hole) e = true ∧ chkL T X.N sc cs.tail es = true := by
    cases cs with
    | nil => simp [chkL] at hc
    | cons c cs => simpa [chkL] using hc
  have hu : ∀ σ H Q, tE P Γ C W n (.bi b cs) σ H Q → tCB (rBi b) (tAl P Γ C W n b.cp cs) σ H Q := fun σ H Q ⟨w, ρ, k, f⟩ => by
    have f : FinE C W n ((evLook P Γ b.cp cs ρ).bind fun xs ρ => R.opt (biD b xs) ρ) (effL P cs) w H σ Q := f
    rw [← FinG.fin] at f
    refine ⟨w, ρ, k, FinG.bind f (fun z => z) fun xs ρ1 vs w1 H1 _ ev1 k1 r1 s1 f1 => ?_⟩
    obtain ⟨z, e, f2⟩ := FinG.opt0 f1
    rw [FinG.fin] at f2
    exact ⟨C, w1, xs, z, r1, e, Cont.of k1 (biD_fit e) f2⟩
  have h1 := starEach_ok (env := X.env) (es := es) hs.1
  have h2 := stars_plain (pos := pos) (env := X.env) hs.2
  have hb := call_bi g.calm g.hu b
  cases b with
  | len => exact PE.imp (pe_callB hb (g.glb hg) (g.blt _ (by decide)) rfl ha (by decide) rfl h1 h2) hu
  | abs => exact PE.imp (pe_callB hb (g.glb hg) (g.blt _ (by decide)) rfl ha (by decide) rfl h1 h2) hu
  | int => exact PE.imp (pe_callTy hb (g.glb hg) (g.blt _ (by decide)) rfl ha (by decide) rfl h1 h2) hu
  | sum => exact PE.imp (pe_callB hb (g.glb hg) (g.blt _ (by decide)) rfl ha (by decide) rfl h1 h2) hu
  | max1 => exact PE.imp (pe_callB hb (g.glb hg) (g.blt _ (by decide)) rfl ha (by decide) rfl h1 h2) hu
  | min1 => exact PE.imp (pe_callB hb (g.glb hg) (g.blt _ (by decide)) rfl ha (by decide) rfl h1 h2) hu
  | max2 => exact PE.imp (pe_callB hb (g.glb hg) (g.blt _ (by decide)) rfl ha (by decide) rfl h1 h2) hu
  | min2 => exact PE.imp (pe_callB hb (g.glb hg) (g.blt _ (by decide)) rfl ha (by decide) rfl h1 h2) hu
  | list => exact PE.imp (pe_callTy hb (g.glb hg) (g.blt _ (by decide)) rfl ha (by decide) rfl h1 h2) hu
  | sorted => exact PE.imp (pe_callB hb (g.glb hg) (g.blt _ (by decide)) rfl ha (by decide) rfl h1 h2) hu
  | all => exact PE.imp (pe_callB hb (g.glb hg) (g.blt _ (by decide)) rfl ha (by decide) rfl h1 h2) hu
  | any => exact PE.imp (pe_callB hb (g.glb hg) (g.blt _ (by decide)) rfl ha (by decide) rfl h1 h2) hu

/-! ### isinstance -/
def tyS : Ty → String
  | .int => "int" | .bool => "bool" | .str => "str" | .list => "list" | .tuple => "tuple" | .dict => "dict" | .cls _ => ""
def dS : D → String
  | .non => "NoneType" | .bl _ => "bool" | .int _ => "int" | .str _ => "str" | .lst _ => "list" | .tup _ => "tuple" | .dK _ => "dict" | .dT _ => "dict" | .ins _ _ => ""
theorem ty_of {d : D} {v : V} {K : PySem.W.Frag} (h : Vw C H d v) (ni : ∀ c fs, d ≠ .ins c fs) : TyX K H v (.type (dS d)) := by
  cases d with
  | non => rw [show v = _ from h]; exact .base .non
  | bl _ => rw [show v = _ from h]; exact .base (.bl _)
  | int _ => rw [show v = _ from h]; exact .base (.int _)
  | str _ => rw [show v = _ from h]; exact .base (.str _)
  | lst _ =>
    obtain ⟨a, vs, e, hR, _⟩ := h
    subst e
    rcases hR with hR | ⟨o, hR⟩
    · exact .base (.lst hR)
    · exact .base (.frz hR)
  | tup _ => obtain ⟨a, vs, e, hR, _⟩ := h; subst e; exact .base (.tup hR)
  | ins c fs => exact absurd rfl (ni c fs)
  | dK _ => obtain ⟨a, vs, e, hR, _⟩ := h; subst e; exact .base (.dK hR)
  | dT _ => obtain ⟨a, vs, e, hR, _⟩ := h; subst e; exact .base (.dT hR)
theorem kit_tab (d t : String) (hd : d ∈ ["NoneType", "bool", "int", "str", "list", "tuple", "dict"]) (ht : t ∈ ["int", "bool", "str", "list", "tuple", "dict"]) : kitB d t = some (decide (d = t) || (decide (d = "bool") && decide (t = "int"))) := by
  have q : (["NoneType", "bool", "int", "str", "list", "tuple", "dict"].all fun d => ["int", "bool", "str", "list", "tuple", "dict"].all fun t => decide (kitB d t = some (decide (d = t) || (decide (d = "bool") && decide (t = "int"))))) = true := by decide +kernel
  exact of_decide_eq_true (List.all_eq_true.mp (List.all_eq_true.mp q d hd) t ht)
theorem isD_kit {d : D} {t : Ty} {k : Bool} (h : isD d t = some k) : (∀ c fs, d ≠ .ins c fs) ∧ (∀ c, t ≠ .cls c) ∧ kitB (dS d) (tyS t) = some k := by
  cases d <;> cases t <;> first
    | (cases h; done)
    | (cases h; exact ⟨fun _ _ z => (nomatch z), fun _ z => (nomatch z), (kit_tab _ _ (by simp [dS]) (by simp [tyS])).trans (by simp [dS, tyS])⟩)
theorem PE.isIV {t : Ty} {p p2 : Pos} (g : Good P Γ C T lev X sc W) (hg : VS.glb sc "isinstance" = true) (hg2 : VS.glb sc (tyN t) = true) (ht : ∀ c, t ≠ .cls c) (ha : PE X l (tLk P Γ C W n a)) (hc : chkE T X.N sc a l = true) : PE X (.Call (.Name "isinstance" p) [l, .Name (tyN t) p2] [] pos) (tE P Γ C W n (.isI a t)) := by
  have h2 : PE X (.Name (tyN t) p2) (tC (.ty (tyS t))) := by
    cases t with
    | cls c => exact absurd rfl (ht c)
    | int => exact pe_bltn (g.glb hg2) (g.blt _ (by decide)) (u := .type "int") rfl rfl (by decide) rfl
    | bool => exact pe_bltn (g.glb hg2) (g.blt _ (by decide)) (u := .type "bool") rfl rfl (by decide) rfl
    | str => exact pe_bltn (g.glb hg2) (g.blt _ (by decide)) (u := .type "str") rfl rfl (by decide) rfl
    | list => exact pe_bltn (g.glb hg2) (g.blt _ (by decide)) (u := .type "list") rfl rfl (by decide) rfl
    | tuple => exact pe_bltn (g.glb hg2) (g.blt _ (by decide)) (u := .type "tuple") rfl rfl (by decide) rfl
    | dict => exact pe_bltn (g.glb hg2) (g.blt _ (by decide)) (u := .type "dict") rfl rfl (by decide) rfl
  refine PE.imp (pe_callB call_isi (g.glb hg) (g.blt _ (by decide)) rfl (pa_cons ha (pa_cons h2 pa_nil) (starEach_ok hc)) (by decide) rfl (starEach_ok hc) rfl) fun σ H Q ⟨w, ρ, k, f⟩ => ?_
  have f : FinE C W n ((VS.look a (ev P Γ a ρ) ρ).bind fun x ρ => (R.opt (isD x t) ρ).bind fun k ρ => .ok (.bl k, .dp) ρ) (eff P a) w H σ Q := f
  rw [← FinG.fin] at f
  refine ⟨w, ρ, k, FinG.bind f (fun z => z) fun x ρ1 v w1 H1 _ ev1 k1 l1 s1 f1 => ?_⟩
  obtain ⟨z, e, f2⟩ := FinG.opt f1
  obtain ⟨ni, _, hk⟩ := isD_kit e
  exact ⟨v, .ty (tyS t), _, _, z, rfl, .ty _, ty_of l1.1 ni, kit_ty hk, FinG.okE (v := .bl z) k1 f2 rfl⟩
end
end VS

set_option Elab.async false
set_option linter.all false
set_option maxRecDepth 100000
/-! VL: pop, targets, comprehensions. -/
namespace VS
open PySem PySem.Spec PyProof.Rows L2
section
variable {P : Pg} {Γ : Ga} {C : Nat → Addr} {T : Tx} {lev : Nat} {X : Cx} {sc : Scope} {W : WX} {n : Nat} {a b c : Ex} {l r m e : Expr} {pos : Pos} {ρ ρ' : En} {w : Wh} {H : Hp} {σ : L2.St} {cs : List Ex} {es : List Expr}
/-- the root at a slot changes -/
theorem Ok.put {i : Nat} {q : Addr} {o : HO} {d d' : D} {m m' : Md} {v : V} (k : Ok C w H ρ σ) (h : ρ[i]? = some (some (d, m))) (hw : w q = .rt (.s i)) (hl : H q ≠ none) (hv : σ[i]? = some (some v)) (no : ∀ us, o ≠ .tup us)
    (r : Rep C w (upd H q o) d' m' (.s i) v) : Ok C w (upd H q o) (ρ.set i (some (d', m'))) σ := by
  have hi : i < ρ.length := (List.getElem?_eq_some_iff.mp h).1
  refine ⟨by rw [List.length_set]; exact k.len, fun j d2 m2 e => ?_, fun a e => ?_, fun a us e => ?_⟩
  · by_cases hj : i = j
    · subst hj
      rw [List.getElem?_set_self hi] at e
      cases e
      exact ⟨v, hv, r⟩
    · rw [List.getElem?_set_ne hj] at e
      obtain ⟨u, h1, h2⟩ := k.rep j d2 m2 e
      refine ⟨u, h1, h2.put fun m z => ?_⟩
      rw [hw] at z
      cases m <;> simp [Md.own] at z <;> exact hj z
  · by_cases z : a = q
    · rw [z, upd_same] at e; cases e
    · rw [upd_ne z] at e; exact k.nn a e
  · by_cases z : a = q
    · rw [z, upd_same] at e; exact absurd (Option.some.inj e) (no us)
    · rw [upd_ne z] at e; exact k.tp a us e
/-- an item is taken out -/
theorem pop_run {i j : Nat} {xs : List D} {d : D} {m : Md} {ef : Bool} {Q : VK} (k : Ok C w H ρ σ) (h : slot ρ i = some (.lst xs, m)) (hm : m = .rt ∨ m = .dp) (hj : xs[j]? = some d)
    (f : FinE C W n (.ok (itemM d) (ρ.set i (some (.lst (xs.eraseIdx j), if m = .dp && VS.imm d then .dp else .rt)))) true w H σ Q) :
    ∃ q vs y, σ[i]? = some (some (.ref q)) ∧ H q = some (.lst vs) ∧ vs.length = xs.length ∧ vs[j]? = some y ∧ Q y (upd H q (.lst (vs.eraseIdx j))) := by
  have hs := slot_some h
  -- the list's own items are shared or cannot be changed
  have key : ∀ {w : Wh} {ρ0 : En} {m0 : Md}, Ok C w H ρ0 σ → ρ0[i]? = some (some (.lst xs, m0)) → (m0 = .rt ∨ (m0 = .dp ∧ VS.imm d = true)) → FinE C W n (.ok (itemM d) (ρ0.set i (some (.lst (xs.eraseIdx j), m0)))) true w H σ Q →
      ∃ q vs y, σ[i]? = some (some (.ref q)) ∧ H q = some (.lst vs) ∧ vs.length = xs.length ∧ vs[j]? = some y ∧ Q y (upd H q (.lst (vs.eraseIdx j))) := fun {w ρ0 m0} k hs hm f => by
    obtain ⟨v, hv, q, vs, e, hw, hH, hr⟩ := k.rep i _ _ hs
    subst e
    have hw' : w q = .rt (.s i) := by rw [hw]; rcases hm with z | ⟨z, _⟩ <;> subst z <;> rfl
    have hH' : H q = some (.lst vs) := hH.elim id fun ⟨z, _⟩ => by rcases hm with y | ⟨y, _⟩ <;> rw [y] at z <;> cases z
    obtain ⟨y, hy, ry⟩ := hr.get hj
    refine ⟨q, vs, y, hv, hH', hr.length, hy, ?_⟩
    have hc : m0.child = .fz ∨ m0.child = .sb := by rcases hm with z | ⟨z, _⟩ <;> subst z; exact .inl rfl; exact .inr rfl
    refine f y w _ (Evo.put (.inl hw') (by rw [hH']; simp)) (k.put hs hw' (by rw [hH']; simp) hv (by simp) ⟨q, vs.eraseIdx j, rfl, hw, .inl upd_same, (hr.erase j).putKid hw' hc⟩) ?_ fun z => by cases z
    have r2 : Rep C w H (itemM d).1 (itemM d).2 (.t n) y := by
      unfold itemM
      rcases hm with z | ⟨z, hi⟩
      · subst z
        cases hi : VS.imm d with
        | true => exact ry.any hi
        | false => exact ry.fzId
      · subst z
        rw [hi]
        exact ry.any hi
    exact r2.put fun m z => by rw [hw'] at z; cases m <;> cases z
  rcases hm with z | z
  · subst z
    exact key k hs (.inl rfl) f
  · subst z
    cases hi : VS.imm d with
    | true =>
      rw [hi] at f
      exact key k hs (.inr ⟨rfl, hi⟩) f
    | false =>
      rw [hi] at f
      have k2 := k.flat hs
      have hl : i < ρ.length := (List.getElem?_eq_some_iff.mp hs).1
      refine key k2 (m0 := .rt) (by rw [List.getElem?_set_self hl]; rfl) (.inl rfl) ?_
      rw [List.set_set]
      exact FinE.evo (Evo.frzS fun j _ => rfl) (fun z => by cases z) f
theorem dropLast_erase {α : Type} (xs : List α) : xs.dropLast = xs.eraseIdx (xs.length - 1) := by
  rw [List.dropLast_eq_take, List.eraseIdx_eq_take_drop_succ]
  cases xs with
  | nil => rfl
  | cons x r => simp
theorem PE.popV {i : Nat} {ap : Pos} {o : Expr} (hv : PE X o (tVar i)) (hb : attributeBase o "pop" X.env (eval o X.env) = eval o X.env) (hl : (ap.endLine == pos.line) = true) : PE X (.Call (.Attribute o "pop" ap) [] [] pos) (tE P Γ C W n (.pop i)) := by
  refine PE.imp (pe_bm0 PySem.F.plainAttrs_list PySem.F.slot_list_pop PySem.F.type_list_pop mt_pop hv hb hl) fun σ H Q ⟨w, ρ, k, f⟩ => ?_
  have f : FinE C W n (ev.popGo i (fun xs => if xs.length = 0 then none else some (xs.length - 1)) ρ) true w H σ Q := f
  unfold ev.popGo at f
  split at f
  · rename_i xs m hs
    split at f
    · rename_i hm
      split at f
      · rename_i j hj
        split at f
        · rename_i d hd
          obtain ⟨q, vs, y, e1, e2, e3, e4, e5⟩ := pop_run (ef := true) k hs hm hd f
          dsimp only at hj
          split at hj
          · cases hj
          · cases hj
            refine ⟨.ref q, e1, .inl ⟨rfl, vs, .inl (.inl e2)⟩, q, vs, y, rfl, rfl, e2, by rw [e3]; exact e4, ?_⟩
            rw [dropLast_erase, e3]
            exact e5
        · exact f.elim
      · exact f.elim
    · exact f.elim
  · exact f.elim
theorem PE.popAtV {i : Nat} {ap : Pos} {o : Expr} (hv : PE X o (tVar i)) (ha : PE X l (tLk P Γ C W n a)) (hc : chkE T X.N sc a l = true) (hb : attributeBase o "pop" X.env (eval o X.env) = eval o X.env) (hl : (ap.endLine == pos.line) = true) : PE X (.Call (.Attribute o "pop" ap) [l] [] pos) (tE P Γ C W n (.popAt i a)) := by
  have hc1 : chkL T X.N sc [a] [l] = true := by simp [chkL, hc]
  refine PE.imp (pe_bm PySem.F.plainAttrs_list PySem.F.slot_list_pop PySem.F.type_list_pop mt_popAt hv (pa_cons ha pa_nil (starEach_ok hc)) hb (by rw [stars_few hc1]; rfl) hl (starEach_ok hc) rfl) fun σ H Q ⟨w, ρ, k, f⟩ => ?_
  have f : FinE C W n ((R.opt (isLst (slot ρ i)) ρ).bind fun _ ρ => (VS.look a (ev P Γ a ρ) ρ).bind fun x ρ => match x with
    | .int k => ev.popGo i (fun xs => if decide (-(2 ^ 63) ≤ k) && decide (k < 2 ^ 63) then seqIndex? k xs.length else none) ρ
    | _ => .bad) true w H σ Q := f
  rw [← FinG.fin] at f
  obtain ⟨u, e0, f0⟩ := FinG.opt f
  have h0 : ∃ xs m, slot ρ i = some (.lst xs, m) := by
    unfold isLst at e0
    split at e0
    · rename_i xs m h; exact ⟨xs, m, h⟩
    · cases e0
  obtain ⟨xs0, m0, h0⟩ := h0
  obtain ⟨v0, hv0, hr0⟩ := k.rep i _ _ (slot_some h0)
  obtain ⟨q0, vs0, e00, hR0, _⟩ := Rep.vw _ _ _ hr0
  refine ⟨v0, hv0, ?_, w, ρ, k, ?_⟩
  · subst e00
    exact .inl ⟨rfl, vs0, .inl hR0⟩
  refine FinG.bind f0 (fun z => by cases z) fun x ρ1 v w1 H1 _ ev1 k1 l1 s1 f1 => ?_
  cases x with
  | int z =>
    rw [FinG.fin] at f1
    have f1 : FinE C W n (ev.popGo i (fun xs => if decide (-(2 ^ 63) ≤ z) && decide (z < 2 ^ 63) then seqIndex? z xs.length else none) ρ1) true w1 H1 σ Q := f1
    unfold ev.popGo at f1
    split at f1
    · rename_i xs m hs
      split at f1
      · rename_i hm
        split at f1
        · rename_i j hj
          split at f1
          · rename_i d hd
            obtain ⟨q, vs, y, e1, e2, e3, e4, e5⟩ := pop_run (ef := true) k1 hs hm hd f1
            rw [hv0] at e1
            cases e1
            dsimp only at hj
            split at hj
            · rename_i hb
              rw [Bool.and_eq_true, decide_eq_true_eq, decide_eq_true_eq] at hb
              exact ⟨q, vs, z, j, y, rfl, by rw [show v = _ from l1.1], e2, hb.1, hb.2, by rw [e3]; exact hj, e4, e5⟩
            · cases hj
          · exact f1.elim
        · exact f1.elim
      · exact f1.elim
    · exact f1.elim
  | _ => exact f1.elim

/-! ### targets -/
theorem Ok.setI {i : Nat} {d : D} {m : Md} {v : V} (k : Ok C w H ρ σ) (r : Rep C w H d m (.s i) v) : Ok C w H (ρ.set i (some (d, m))) (σ.set i (some v)) := by
  refine ⟨by rw [List.length_set, List.length_set]; exact k.len, fun j d' m' e => ?_, k.nn, k.tp⟩
  by_cases hj : i = j
  · subst hj
    by_cases hi : i < ρ.length
    · rw [List.getElem?_set_self hi] at e
      cases e
      exact ⟨v, by rw [List.getElem?_set_self (by rw [← k.len]; exact hi)], r⟩
    · rw [List.getElem?_eq_none (by rw [List.length_set]; exact Nat.le_of_not_lt hi)] at e
      cases e
  · rw [List.getElem?_set_ne hj] at e
    obtain ⟨v', h1, h2⟩ := k.rep j d' m' e
    exact ⟨v', by rw [List.getElem?_set_ne hj]; exact h1, h2⟩
def setV : List Nat → List V → L2.St → L2.St
  | i :: is, v :: vs, σ => setV is vs (σ.set i (some v))
  | _, _, σ => σ
def gNames : List Nat → TGs
  | [] => gNil
  | i :: is => gCons (gName i) (gNames is)
def gTg (K : PySem.W.Frag) (tup : Bool) (is : List Nat) : TG := match tup, is with
  | false, i :: _ => gName i
  | false, [] => fun _ _ _ _ => False
  | true, is => gTup K is.length (gNames is)
theorem bindT_ok : ∀ {is : List Nat} {ds : List D} {vs : List V} {ρ ρ' : En} {σ : L2.St} {Q : L2.St → Hp → Prop}, bindT is ds ρ = some ρ' → Ok C w H ρ σ → RepL C w H ds .fz (.s 0) vs →
    (Ok C w H ρ' (setV is vs σ) → Q (setV is vs σ) H) → vs.length = is.length ∧ gNames is vs σ H Q
  | [], [], vs, ρ, ρ', σ, Q, e, k, r, q => by
    cases e
    rw [show vs = [] from r] at q ⊢
    exact ⟨rfl, rfl, q k⟩
  | i :: is, d :: ds, vs, ρ, ρ', σ, Q, e, k, ⟨v, vr, e1, r1, r2⟩, q => by
    subst e1
    obtain ⟨h1, h2⟩ := bindT_ok (is := is) (ds := ds) (vs := vr) (ρ := ρ.set i (some (itemM d))) (σ := σ.set i (some v)) (Q := Q) e (k.setI (m := (itemM d).2) (Rep.item r1)) r2 q
    exact ⟨by rw [List.length_cons, List.length_cons, h1], v, vr, rfl, h2⟩
  | [], _ :: _, _, _, _, _, _, e, _, _, _ => by cases e
  | _ :: _, [], _, _, _, _, _, e, _, _, _ => by cases e
/-- a target takes a shared tree -/
theorem bindOne_ok {tup : Bool} {is : List Nat} {d : D} {v : V} {K : PySem.W.Frag} {Q : L2.St → Hp → Prop} (e : bindOne tup is d ρ = some ρ') (k : Ok C w H ρ σ) (r : Rep C w H d .fz (.s 0) v)
    (q : ∀ vs, Ok C w H ρ' (setV is vs σ) → Q (setV is vs σ) H) : gTg K tup is v σ H Q := by
  unfold bindOne at e
  split at e
  · cases e
    exact q [v] (k.setI (Rep.item r))
  · obtain ⟨a, vs, e1, hw, hH, hr⟩ := r
    obtain ⟨h1, h2⟩ := bindT_ok (Q := Q) e k (RepL.fzId (i := .s 0) hr) (q vs)
    exact ⟨a, vs, e1, .inl (.inl hH), h1, h2⟩
  · cases e
theorem chkT1_ok {N : List Str} {i : Nat} (h : chkT1 N sc i e = true) : ∃ x p, e = .Name x p ∧ N[i]? = some x ∧ VS.loc sc x = true := by
  unfold chkT1 at h
  split at h
  · simp only [Bool.and_eq_true, decide_eq_true_eq] at h
    exact ⟨_, _, rfl, h.1, h.2⟩
  · cases h
theorem pg_one {i : Nat} (nd : X.N.Nodup) (hf : ∀ x, VS.loc sc x = true → Loc X.env.scope x ∧ (X.fn x = true ∨ X.env.scope.names.lookup x = some .local)) (h : chkT1 X.N sc i e = true) : PG X e (gName i) := by
  obtain ⟨x, p, rfl, h1, h2⟩ := chkT1_ok h
  exact pg_name nd h1 (hf x h2).1 (hf x h2).2
theorem pgs_all (nd : X.N.Nodup) (hf : ∀ x, VS.loc sc x = true → Loc X.env.scope x ∧ (X.fn x = true ∨ X.env.scope.names.lookup x = some .local)) : ∀ {is : List Nat} {es : List Expr}, chkTs X.N sc is es = true →
    PGs X es (gNames is) ∧ (assignEach es X.env).length = is.length ∧ (assignEach es X.env).findIdx? (·.1) = none
  | [], [], _ => ⟨pgs_nil, rfl, rfl⟩
  | i :: is, e :: es, h => by
    simp only [chkTs, Bool.and_eq_true] at h
    obtain ⟨x, p, rfl, h1, h2⟩ := chkT1_ok h.1
    obtain ⟨q1, q2, q3⟩ := pgs_all nd hf h.2
    refine ⟨pgs_cons (pg_one nd hf h.1) q1 rfl, ?_, ?_⟩
    · show (assignEach es X.env).length + 1 = _
      rw [q2]; rfl
    · show List.findIdx? _ ((false, _) :: assignEach es X.env) = none
      rw [List.findIdx?_cons]
      simp [q3]
  | [], _ :: _, h => by simp [chkTs] at h
  | _ :: _, [], h => by simp [chkTs] at h
theorem PG.tgV {tup : Bool} {is : List Nat} (nd : X.N.Nodup) (hc : X.calm = true) (hf : ∀ x, VS.loc sc x = true → Loc X.env.scope x ∧ (X.fn x = true ∨ X.env.scope.names.lookup x = some .local)) (h : chkTg X.N sc tup is e = true) : PG X e (gTg X.K tup is) := by
  unfold chkTg at h
  split at h
  · exact pg_one nd hf h
  · obtain ⟨q1, q2, q3⟩ := pgs_all nd hf h
    exact pg_tup hc q1 q2 q3
  · cases h
end
end VS

set_option Elab.async false
set_option linter.all false
set_option maxRecDepth 100000
/-! VM: comprehensions. -/
namespace VS
open PySem PySem.Spec PyProof.Rows L2
theorem wipe_get (σ : L2.St) (j : Nat) : ∀ vs : List Nat, (wipe σ vs)[j]? = if j ∈ vs ∧ j < σ.length then some none else σ[j]?
  | [] => by simp [wipe]
  | v :: vs => by
    unfold wipe
    by_cases h : v = j
    · subst h
      by_cases hl : v < σ.length
      · rw [List.getElem?_set_self (by rw [wipe_length]; exact hl), if_pos ⟨List.mem_cons_self, hl⟩]
      · rw [List.getElem?_eq_none (by rw [List.length_set, wipe_length]; omega), if_neg (fun z => hl z.2), List.getElem?_eq_none (by omega)]
    · rw [List.getElem?_set_ne h, wipe_get σ j vs]
      have : (j ∈ v :: vs ∧ j < σ.length) ↔ (j ∈ vs ∧ j < σ.length) := by
        rw [List.mem_cons]
        exact ⟨fun z => ⟨z.1.resolve_left fun y => h y.symm, z.2⟩, fun z => ⟨.inr z.1, z.2⟩⟩
      simp only [this]
theorem wipeE_get (j : Nat) : ∀ (vs : List Nat) (ρ : En), (wipeE vs ρ)[j]? = if j ∈ vs ∧ j < ρ.length then some none else ρ[j]?
  | [], ρ => by simp [wipeE]
  | v :: vs, ρ => by
    show (wipeE vs (ρ.set v none))[j]? = _
    rw [wipeE_get j vs, List.length_set]
    by_cases h : v = j
    · subst h
      by_cases hl : v < ρ.length
      · rw [List.getElem?_set_self hl, if_pos (⟨List.mem_cons_self, hl⟩ : v ∈ v :: vs ∧ v < ρ.length)]
        split <;> rfl
      · rw [if_neg (fun z => hl z.2), if_neg (fun z => hl z.2), List.getElem?_eq_none (by rw [List.length_set]; omega), List.getElem?_eq_none (by omega)]
    · rw [List.getElem?_set_ne h]
      have : (j ∈ v :: vs ∧ j < ρ.length) ↔ (j ∈ vs ∧ j < ρ.length) := by
        rw [List.mem_cons]
        exact ⟨fun z => ⟨z.1.resolve_left fun y => h y.symm, z.2⟩, fun z => ⟨.inr z.1, z.2⟩⟩
      simp only [this]
theorem wipeE_length : ∀ (vs : List Nat) (ρ : En), (wipeE vs ρ).length = ρ.length
  | [], _ => rfl
  | v :: vs, ρ => by show (wipeE vs (ρ.set v none)).length = _; rw [wipeE_length, List.length_set]
theorem wipe_wipe (σ : L2.St) (vs : List Nat) : wipe (wipe σ vs) vs = wipe σ vs := by
  apply List.ext_getElem?
  intro j
  rw [wipe_get, wipe_get, wipe_length]
  split <;> rfl
theorem wipe_set {σ : L2.St} {vs : List Nat} {i : Nat} {x : Option V} (h : i ∈ vs) : wipe (σ.set i x) vs = wipe σ vs := by
  apply List.ext_getElem?
  intro j
  rw [wipe_get, wipe_get, List.length_set]
  split
  · rfl
  · rename_i z
    by_cases hj : i = j
    · subst hj
      rw [List.getElem?_eq_none (by rw [List.length_set]; exact Nat.le_of_not_lt fun y => z ⟨h, y⟩), List.getElem?_eq_none (Nat.le_of_not_lt fun y => z ⟨h, y⟩)]
    · rw [List.getElem?_set_ne hj]
theorem wipe_setV {vs : List Nat} : ∀ {is : List Nat} {us : List V} {σ : L2.St}, (∀ i ∈ is, i ∈ vs) → wipe (setV is us σ) vs = wipe σ vs
  | [], _, _, _ => rfl
  | _ :: _, [], _, _ => rfl
  | i :: is, u :: us, σ, h => by
    show wipe (setV is us (σ.set i (some u))) vs = _
    rw [wipe_setV fun j hj => h j (List.mem_cons_of_mem _ hj), wipe_set (h i List.mem_cons_self)]
section
variable {P : Pg} {Γ : Ga} {C : Nat → Addr} {T : Tx} {lev : Nat} {X : Cx} {sc : Scope} {W : WX} {n : Nat} {a b c : Ex} {l r m e : Expr} {pos : Pos} {ρ ρ' : En} {w : Wh} {H : Hp} {σ : L2.St} {cs : List Ex} {es : List Expr} {own : List Nat}
theorem Ok.wipe (k : Ok C w H ρ σ) : Ok C w H (wipeE own ρ) (L2.wipe σ own) := by
  refine ⟨by rw [wipeE_length, wipe_length]; exact k.len, fun i d m e => ?_, k.nn, k.tp⟩
  rw [wipeE_get] at e
  split at e
  · cases e
  · rename_i z
    obtain ⟨v, h1, h2⟩ := k.rep i d m e
    refine ⟨v, ?_, h2⟩
    rw [wipe_get, if_neg (fun y => z ⟨y.1, by rw [k.len]; exact y.2⟩)]
    exact h1
theorem Ok.unwipe (k : Ok C w H ρ (L2.wipe σ own)) : Ok C w H ρ σ :=
  ⟨by rw [k.len, wipe_length], fun i d m e => let ⟨v, h1, h2⟩ := k.rep i d m e; ⟨v, (wipe_some h1).1, h2⟩, k.nn, k.tp⟩
theorem Ok.frzST {p : Id → Bool} (k : Ok C w H ρ σ) (hp : ∀ i, p (.s i) = false) : Ok C (frzS p w) H ρ σ :=
  ⟨k.len, fun i d m e => let ⟨v, h1, h2⟩ := k.rep i d m e; ⟨v, h1, h2.frzSOut (hp i)⟩, fun a h => frzS_no (k.nn a h), fun a vs h => (k.tp a vs h).imp frzS_no frzS_fz⟩
theorem Ok.putT {q : Addr} {o : HO} {j : Nat} (k : Ok C w H ρ σ) (hw : w q = .rt (.t j)) (hl : H q ≠ none) (no : ∀ us, o ≠ .tup us) : Ok C w (upd H q o) ρ σ :=
  ⟨k.len, fun i d m e => let ⟨v, h1, h2⟩ := k.rep i d m e; ⟨v, h1, h2.put fun m z => by rw [hw] at z; cases m <;> cases z⟩, fun a e => by
    by_cases z : a = q
    · rw [z, upd_same] at e; cases e
    · rw [upd_ne z] at e; exact k.nn a e, fun a us e => by
    by_cases z : a = q
    · rw [z, upd_same] at e; exact absurd (Option.some.inj e) (no us)
    · rw [upd_ne z] at e; exact k.tp a us e⟩
theorem RepL.subOut {p : Id → Bool} {i k : Id} {m : Md} {ds : List D} {vs : List V} (hp : p k = false) (r : RepL C w H ds m k vs) : RepL C (VS.sub p i w) H ds m k vs := by
  have key : ∀ m : Md, Keeps w (VS.sub p i w) H H m m k k := fun m => .id (fun a o e q => ⟨sub_out hp q, e⟩) fun a o e q => ⟨sub_fz q, e⟩
  exact RepL.map ds m m vs (key m) (key _) r
theorem RepL.frzOut {p : Id → Bool} {k : Id} {m : Md} {ds : List D} {vs : List V} (hp : p k = false) (r : RepL C w H ds m k vs) : RepL C (VS.frz p w) H ds m k vs := by
  have key : ∀ m : Md, Keeps w (VS.frz p w) H H m m k k := fun m => .id (fun a o e q => ⟨frz_out hp q, e⟩) fun a o e q => ⟨frz_fz q, e⟩
  exact RepL.map ds m m vs (key m) (key _) r
theorem RepL.frzSIn {p : Id → Bool} {k : Id} {m : Md} {ds : List D} {vs : List V} (hp : p k = true) (r : RepL C w H ds m k vs) : RepL C (VS.frzS p w) H ds m.flat k vs := by
  have key : ∀ m : Md, Keeps w (VS.frzS p w) H H m m.flat k k := fun m => ⟨fun h => by subst h; rfl, fun a o e q => ⟨by cases m; exact frzS_fz q; exact frzS_rt q; exact frzS_rt q; exact frzS_in hp q, e⟩, fun a o e q => ⟨frzS_fz q, e⟩⟩
  have e : ∀ m : Md, m.child.flat = m.flat.child := fun m => by cases m <;> rfl
  exact RepL.map ds m m.flat vs (key m) (by rw [← e]; exact key _) r
theorem RepL.one {i : Id} {m : Md} {d : D} {v : V} (h : Rep C w H d m i v) : RepL C w H [d] m i [v] := ⟨v, [], rfl, h, rfl⟩
/-- an item comes to a list that is under way -/
theorem app_lst {acc : List (D × Md)} {x : D × Md} {q : Addr} {y : V} {us : List V} (k : Ok C w H ρ σ) (hH : H q = some (.lst us)) (rD : Rep C w H (lstOf acc).1 (lstOf acc).2 (.t n) (.ref q)) (ry : Rep C w H x.1 x.2 (.t (n + 1)) y) :
    ∃ w', Evo n w H w' (upd H q (.lst (us ++ [y]))) ∧ Ok C w' (upd H q (.lst (us ++ [y]))) ρ σ ∧ Rep C w' (upd H q (.lst (us ++ [y]))) (lstOf (acc ++ [x])).1 (lstOf (acc ++ [x])).2 (.t n) (.ref q) := by
  obtain ⟨q', us', e, hw, hH', hr⟩ := rD
  cases e
  have e2 : us' = us := by
    rcases hH' with h | ⟨_, o, h⟩
    · rw [hH] at h; cases h; rfl
    · rw [hH] at h; cases h
  subst e2
  have hw' : w q = .rt (.t n) := by rw [hw]; unfold lstOf; dsimp only; split <;> rfl
  have hl : H q ≠ none := by rw [hH]; simp
  have hall : (acc ++ [x]).all (fun x => decide (x.2 = .dp)) = (acc.all (fun x => decide (x.2 = .dp)) && decide (x.2 = .dp)) := by simp
  have hmap : (acc ++ [x]).map (·.1) = acc.map (·.1) ++ [x.1] := by simp
  cases hA : acc.all (fun x => decide (x.2 = .dp)) && decide (x.2 = .dp) with
  | true =>
    have hA1 := (Bool.and_eq_true _ _ ▸ hA).1
    have hA2 : x.2 = .dp := of_decide_eq_true (Bool.and_eq_true _ _ ▸ hA).2
    have hr : RepL C w H (acc.map (·.1)) .sb (.t n) us' := by unfold lstOf at hr; dsimp only at hr; rw [hA1] at hr; exact hr
    rw [hA2] at ry
    let p : Id → Bool := fun k => decide (k = .t (n + 1))
    have hp : p (.t n) = false := by simp [p]
    have hws : VS.sub p (.t n) w q = .rt (.t n) := (sub_out (m := .rt) hp hw').trans hw'
    refine ⟨VS.sub p (.t n) w, (Evo.sub fun j hj => by simp [p]; omega).trans (Evo.put (k := 0) (.inr ⟨n, Nat.le_refl _, hws⟩) hl), (k.subT fun i => by simp [p]).putT hws hl (by simp), ?_⟩
    have r2 : RepL C (VS.sub p (.t n) w) H (acc.map (·.1) ++ [x.1]) .sb (.t n) (us' ++ [y]) := (hr.subOut hp).append (RepL.one (ry.subIn (by simp [p])))
    unfold lstOf
    rw [hall, hA, hmap]
    exact ⟨q, _, rfl, hws, .inl upd_same, r2.putKid hws (.inr rfl)⟩
  | false =>
    let p : Id → Bool := fun k => decide (k = .t n)
    have h1 : frzS p w q = .rt (.t n) := frzS_rt hw'
    have h2 : frz (geT (n + 1)) (frzS p w) q = .rt (.t n) := (frz_out (m := .rt) (geT_lt (Nat.lt_succ_self n)) h1).trans h1
    have ev : Evo n w H (frz (geT (n + 1)) (frzS p w)) H := (Evo.frzS fun j hj => by simp [p]; omega).trans (Evo.frz fun j hj => geT_lt (by omega))
    refine ⟨frz (geT (n + 1)) (frzS p w), ev.trans (Evo.put (k := 0) (.inr ⟨n, Nat.le_refl _, h2⟩) hl), ((k.frzST fun i => by simp [p]).frzT fun i => rfl).putT h2 hl (by simp), ?_⟩
    have hr2 : RepL C (frz (geT (n + 1)) (frzS p w)) H (acc.map (·.1)) .fz (.t n) us' := by
      have q1 := (RepL.frzSIn (p := p) (by simp [p]) hr).frzOut (p := geT (n + 1)) (geT_lt (Nat.lt_succ_self n))
      have : (lstOf acc).2.child.flat = .fz := by unfold lstOf; dsimp only; split <;> rfl
      rw [this] at q1
      exact q1
    have ry2 : Rep C (frz (geT (n + 1)) (frzS p w)) H x.1 .fz (.t n) y := Rep.frzIn (by simp [geT]) (ry.frzSOut (p := p) (by simp [p]))
    unfold lstOf
    rw [hall, hA, hmap]
    exact ⟨q, _, rfl, h2, .inl upd_same, (hr2.append (RepL.one ry2)).putKid h2 (.inl rfl)⟩
end
end VS

set_option Elab.async false
set_option linter.all false
set_option maxRecDepth 100000
/-! VN: the turns of a comprehension. -/
namespace VS
open PySem PySem.Spec PyProof.Rows L2
def noW : WX := fun _ _ _ _ => False
/-- a comprehension's tests -/
def tIfs (P : Pg) (Γ : Ga) (C : Nat → Addr) (W : WX) (n : Nat) (cs : List Ex) : TT := fun σ H Q => ∃ w ρ, Ok C w H ρ σ ∧ FinG C W n (evIfs P Γ cs ρ) (effL P cs) w H σ (fun k k' _ _ => k = k') Q
def compS (own : List Nat) (tup : Bool) (tg : List Nat) (I : En → R Bool) (E : En → R (D × Md)) : D → En → R (Option (D × Md)) := fun d ρ => match bindOne tup tg d ρ with
  | some ρ => (I ρ).bind fun k ρ => if k then (E ρ).bind fun x ρ => .ok (some x) (wipeE own ρ) else .ok none (wipeE own ρ)
  | none => .bad
section
variable {P : Pg} {Γ : Ga} {C : Nat → Addr} {T : Tx} {lev : Nat} {X : Cx} {sc : Scope} {W : WX} {n : Nat} {a b c : Ex} {l r m e : Expr} {pos : Pos} {ρ ρ' : En} {w : Wh} {H : Hp} {σ : L2.St} {cs : List Ex} {es : List Expr} {own : List Nat}
theorem comp_turn {tup : Bool} {tg : List Nat} {ifs : List Ex} {el : Ex} {d : D} {rest : List D} {acc : List (D × Md)} {q : Addr} {v : V} {us : List V} {K : PySem.W.Frag} {Nx : Hp → Prop}
    (sub : ∀ i ∈ tg, i ∈ own) (k : Ok C w H ρ (L2.wipe σ own)) (hH : H q = some (.lst us)) (rD : Rep C w H (lstOf acc).1 (lstOf acc).2 (.t n) (.ref q)) (rx : Rep C w H d .fz (.s 0) v)
    (nb : compGo (compS own tup tg (evIfs P Γ ifs) (ev P Γ el)) (d :: rest) acc ρ ≠ .bad)
    (nx : ∀ w' H' ρ' acc' us', Evo n w H w' H' → ((effL P ifs || eff P el) = false → ∀ a o, H a = some o → a ≠ q → H' a = some o) → Ok C w' H' ρ' (L2.wipe σ own) → H' q = some (.lst us') → Rep C w' H' (lstOf acc').1 (lstOf acc').2 (.t n) (.ref q) →
      compGo (compS own tup tg (evIfs P Γ ifs) (ev P Γ el)) (d :: rest) acc ρ = compGo (compS own tup tg (evIfs P Γ ifs) (ev P Γ el)) rest acc' ρ' → Nx H') :
    gTg K tup tg v (L2.wipe σ own) H fun σ2 H2 => L2.wipe σ2 own = L2.wipe σ own ∧ tIfs P Γ C noW (n + 1) ifs σ2 H2 fun b H3 =>
      if b = true then tE P Γ C noW (n + 1) el σ2 H3 fun y H4 => ∃ acc, H4 q = some (.lst acc) ∧ acc.length < sizeLine ∧ Nx (upd H4 q (.lst (acc ++ [y]))) else Nx H3 := by
  cases hb : bindOne tup tg d ρ with
  | none => exact absurd (show compGo _ (d :: rest) acc ρ = .bad by unfold compGo compS; rw [hb]) nb
  | some ρ1 =>
    refine bindOne_ok hb k rx fun vs k1 => ?_
    have hwp : L2.wipe (setV tg vs (L2.wipe σ own)) own = L2.wipe σ own := by rw [wipe_setV sub, wipe_wipe]
    refine ⟨hwp, w, ρ1, k1, ?_⟩
    have hF : compS own tup tg (evIfs P Γ ifs) (ev P Γ el) d ρ = (evIfs P Γ ifs ρ1).bind fun k ρ => if k then (ev P Γ el ρ).bind fun x ρ => .ok (some x) (wipeE own ρ) else .ok none (wipeE own ρ) := by unfold compS; rw [hb]
    cases hI : evIfs P Γ ifs ρ1 with
    | bad => exact absurd (show compGo _ (d :: rest) acc ρ = .bad by unfold compGo; rw [hF, hI]; rfl) nb
    | exc c fs ρ2 => exact absurd (show compGo _ (d :: rest) acc ρ = .bad by unfold compGo; rw [hF, hI]; rfl) nb
    | ok kb ρ2 =>
      rw [hI] at hF
      intro kb' w2 H2 ev2 k2 l2 s2
      subst l2
      cases kb with
      | false =>
        rw [if_neg Bool.false_ne_true]
        have rD2 := rD.evo (Nat.lt_succ_self n) ev2
        obtain ⟨q', us', e, hw2, hH2, hr2⟩ := rD2
        cases e
        have hH2' : H2 q = some (.lst us') := hH2.elim id fun ⟨z, _⟩ => by unfold lstOf at z; dsimp only at z; split at z <;> cases z
        have k3 := k2.wipe (own := own)
        rw [hwp] at k3
        refine nx w2 H2 (wipeE own ρ2) acc us' (ev2.weak (Nat.le_succ n)) (fun z a o h _ => s2 (or_ff z).1 a o h) k3 hH2' ⟨q, us', rfl, hw2, hH2, hr2⟩ ?_
        rw [show compGo (compS own tup tg (evIfs P Γ ifs) (ev P Γ el)) (d :: rest) acc ρ = (match compS own tup tg (evIfs P Γ ifs) (ev P Γ el) d ρ with
          | .ok (some x) ρ => if decide (acc.length < sizeLine) then compGo (compS own tup tg (evIfs P Γ ifs) (ev P Γ el)) rest (acc ++ [x]) ρ else .bad
          | .ok none ρ => compGo (compS own tup tg (evIfs P Γ ifs) (ev P Γ el)) rest acc ρ
          | _ => .bad) from rfl, hF]
        rfl
      | true =>
        rw [if_pos rfl]
        refine ⟨w2, ρ2, k2, ?_⟩
        have hF2 : compS own tup tg (evIfs P Γ ifs) (ev P Γ el) d ρ = (ev P Γ el ρ2).bind fun x ρ => .ok (some x) (wipeE own ρ) := hF
        cases hE : ev P Γ el ρ2 with
        | bad => exact absurd (show compGo _ (d :: rest) acc ρ = .bad by unfold compGo; rw [hF2, hE]; rfl) nb
        | exc c fs ρ3 => exact absurd (show compGo _ (d :: rest) acc ρ = .bad by unfold compGo; rw [hF2, hE]; rfl) nb
        | ok x ρ3 =>
          rw [hE] at hF2
          intro y w3 H3 ev3 k3 r3 s3
          have rD3 := (rD.evo (Nat.lt_succ_self n) ev2).evo (Nat.lt_succ_self n) ev3
          have rD3' := rD3
          obtain ⟨q', us', e, hw2, hH2, hr2⟩ := rD3
          cases e
          have hH3 : H3 q = some (.lst us') := hH2.elim id fun ⟨z, _⟩ => by unfold lstOf at z; dsimp only at z; split at z <;> cases z
          have hgo : compGo (compS own tup tg (evIfs P Γ ifs) (ev P Γ el)) (d :: rest) acc ρ = if decide (acc.length < sizeLine) then compGo (compS own tup tg (evIfs P Γ ifs) (ev P Γ el)) rest (acc ++ [x]) (wipeE own ρ3) else .bad := by
            rw [show compGo (compS own tup tg (evIfs P Γ ifs) (ev P Γ el)) (d :: rest) acc ρ = (match compS own tup tg (evIfs P Γ ifs) (ev P Γ el) d ρ with
              | .ok (some x) ρ => if decide (acc.length < sizeLine) then compGo (compS own tup tg (evIfs P Γ ifs) (ev P Γ el)) rest (acc ++ [x]) ρ else .bad
              | .ok none ρ => compGo (compS own tup tg (evIfs P Γ ifs) (ev P Γ el)) rest acc ρ
              | _ => .bad) from rfl, hF2]
            rfl
          have hlen : us'.length = acc.length := by rw [hr2.length, List.length_map]
          cases hz : decide (acc.length < sizeLine) with
          | false => rw [hz] at hgo; exact absurd hgo nb
          | true =>
            rw [hz, if_pos rfl] at hgo
            refine ⟨us', hH3, by rw [hlen]; exact of_decide_eq_true hz, ?_⟩
            obtain ⟨w4, ev4, k4, r4⟩ := app_lst k3 hH3 rD3' r3
            have k5 := k4.wipe (own := own)
            rw [hwp] at k5
            refine nx w4 _ (wipeE own ρ3) (acc ++ [x]) (us' ++ [y]) (((ev2.trans ev3).weak (Nat.le_succ n)).trans ev4) (fun z a o h hne => ?_) k5 upd_same r4 hgo
            rw [upd_ne hne]
            exact s3 (or_ff z).2 a o (s2 (or_ff z).1 a o h)
/-- what holds at a turn's start -/
def CompI (P : Pg) (Γ : Ga) (C : Nat → Addr) (n : Nat) (own : List Nat) (tup : Bool) (tg : List Nat) (ifs : List Ex) (el : Ex) (ds : List D) (ρ0 : En) (w1 : Wh) (H1 : Hp) (σ : L2.St) (q : Addr) (i : Nat) (H : Hp) : Prop :=
  ∃ w ρ acc us, Evo n w1 H1 w H ∧ ((effL P ifs || eff P el) = false → Same H1 H) ∧ Ok C w H ρ (L2.wipe σ own) ∧ H q = some (.lst us) ∧ Rep C w H (lstOf acc).1 (lstOf acc).2 (.t n) (.ref q) ∧
    compGo (compS own tup tg (evIfs P Γ ifs) (ev P Γ el)) ds [] ρ0 = compGo (compS own tup tg (evIfs P Γ ifs) (ev P Γ el)) (ds.drop i) acc ρ
theorem compI_0 {tup : Bool} {tg : List Nat} {ifs : List Ex} {el : Ex} {ds : List D} {q : Addr} (k : Ok C w H ρ σ) (hq : H q = none) : CompI P Γ C n own tup tg ifs el ds (wipeE own ρ) w H σ q 0 (upd H q (.lst [])) :=
  ⟨own1 w q (.rt (.t n)), wipeE own ρ, [], [], Evo.new hq, fun _ => same_new hq, (k.wipe).new hq, upd_same, ⟨q, [], rfl, by rw [own1_same]; rfl, .inl upd_same, rfl⟩, rfl⟩
theorem compI_step {tup : Bool} {tg : List Nat} {ifs : List Ex} {el : Ex} {ds : List D} {q : Addr} {w1 : Wh} {H1 : Hp} {ρ0 : En} {i : Nat} {d : D} {v : V} {K : PySem.W.Frag} (sub : ∀ i ∈ tg, i ∈ own) (hq : H1 q = none) (hd : ds[i]? = some d)
    (nb : compGo (compS own tup tg (evIfs P Γ ifs) (ev P Γ el)) ds [] ρ0 ≠ .bad) (rx : ∀ w H, Evo n w1 H1 w H → ((effL P ifs || eff P el) = false → Same H1 H) → Rep C w H d .fz (.s 0) v)
    (h : CompI P Γ C n own tup tg ifs el ds ρ0 w1 H1 σ q i H) :
    gTg K tup tg v (L2.wipe σ own) H fun σ2 H2 => L2.wipe σ2 own = L2.wipe σ own ∧ tIfs P Γ C noW (n + 1) ifs σ2 H2 fun b H3 =>
      if b = true then tE P Γ C noW (n + 1) el σ2 H3 fun y H4 => ∃ acc, H4 q = some (.lst acc) ∧ acc.length < sizeLine ∧ CompI P Γ C n own tup tg ifs el ds ρ0 w1 H1 σ q (i + 1) (upd H4 q (.lst (acc ++ [y]))) else CompI P Γ C n own tup tg ifs el ds ρ0 w1 H1 σ q (i + 1) H3 := by
  obtain ⟨w, ρ, acc, us, ev, s, k, hH, rD, hgo⟩ := h
  have hi : i < ds.length := (List.getElem?_eq_some_iff.mp hd).1
  have hdr : ds.drop i = d :: ds.drop (i + 1) := by
    rw [List.drop_eq_getElem_cons hi]
    congr 1
    rw [List.getElem?_eq_getElem hi] at hd
    exact Option.some.inj hd
  rw [hdr] at hgo
  refine comp_turn sub k hH rD (rx w H ev s) (by rw [← hgo]; exact nb) fun w' H' ρ' acc' us' ev' s' k' hH' rD' hgo' => ?_
  exact ⟨w', ρ', acc', us', ev.trans ev', fun z a o h => s' z a o (s z a o h) (fun y => by rw [y, hq] at h; cases h), k', hH', rD', hgo.trans hgo'⟩
theorem compI_end {tup : Bool} {tg : List Nat} {ifs : List Ex} {el : Ex} {ds : List D} {q : Addr} {w1 : Wh} {H1 : Hp} {ρ0 : En} {i : Nat} {ef : Bool} {Q : VK} (hi : ds.length ≤ i) (he : ef = false → (effL P ifs || eff P el) = false)
    (f : FinE C W n ((compGo (compS own tup tg (evIfs P Γ ifs) (ev P Γ el)) ds [] ρ0).bind fun xs ρ => .ok (lstOf xs) ρ) ef w1 H1 σ Q)
    (h : CompI P Γ C n own tup tg ifs el ds ρ0 w1 H1 σ q i H) : Q (.ref q) H := by
  obtain ⟨w, ρ, acc, us, ev, s, k, hH, rD, hgo⟩ := h
  rw [hgo, List.drop_of_length_le hi] at f
  exact f (.ref q) w H ev k.unwipe rD fun z => s (he z)
theorem comp_nb {tup : Bool} {tg : List Nat} {ifs : List Ex} {el : Ex} {ds : List D} {w1 : Wh} {H1 : Hp} {ρ0 : En} {ef : Bool} {Q : VK}
    (f : FinE C W n ((compGo (compS own tup tg (evIfs P Γ ifs) (ev P Γ el)) ds [] ρ0).bind fun xs ρ => .ok (lstOf xs) ρ) ef w1 H1 σ Q) : compGo (compS own tup tg (evIfs P Γ ifs) (ev P Γ el)) ds [] ρ0 ≠ .bad := fun z => by
  rw [z] at f; exact f
end
end VS

set_option Elab.async false
set_option linter.all false
set_option maxRecDepth 100000
/-! VO: every expression that the check lets does what the evaluator says. -/
namespace VS
open PySem PySem.Spec PyProof.Rows L2
structure Snd1 (P : Pg) (Γ : Ga) (C : Nat → Addr) (T : Tx) (lev : Nat) (c : Ex) : Prop where
  run : ∀ {X : Cx} {sc : Scope} {W : WX} {e : Expr}, Good P Γ C T lev X sc W → chkE T X.N sc c e = true → ∀ n, PE X e (tE P Γ C W n c) ∧ PT X e (tT P Γ C W n c)
def AllS (P : Pg) (Γ : Ga) (C : Nat → Addr) (T : Tx) (lev : Nat) : List Ex → Prop
  | [] => True
  | c :: r => Snd1 P Γ C T lev c ∧ AllS P Γ C T lev r
section
variable {P : Pg} {Γ : Ga} {C : Nat → Addr} {T : Tx} {lev : Nat} {X : Cx} {sc : Scope} {W : WX} {n : Nat} {a b c d : Ex} {l r m e : Expr} {pos : Pos} {ρ ρ' : En} {w : Wh} {H : Hp} {σ : L2.St} {cs : List Ex} {es : List Expr} {own : List Nat}
theorem varS (g : Good P Γ C T lev X sc W) (h : chkE T X.N sc c e = true) (i : Nat) (q : c = .var i) : PE X e (tVar i) := by
  subst q
  unfold chkE at h
  exact g.var h
theorem Snd1.lk (s : Snd1 P Γ C T lev c) (g : Good P Γ C T lev X sc W) (h : chkE T X.N sc c e = true) (n : Nat) : PE X e (tLk P Γ C W n c) := VS.PE.look (s.run g h n).1 (varS g h)
theorem Snd1.cp (s : Snd1 P Γ C T lev c) (g : Good P Γ C T lev X sc W) (h : chkE T X.N sc c e = true) (n : Nat) : PE X e (tCp P Γ C W n c) := VS.PE.cpy (s.run g h n).1 (varS g h)
theorem both (g : Good P Γ C T lev X sc W) (h : chkE T X.N sc c e = true) (q : PE X e (tE P Γ C W n c)) (he : ∀ whole, isTrue e X.env whole = (do let v ← whole; standAt e.pos; holding [v] (truthy v)) := by exact fun _ => rfl) : PE X e (tE P Γ C W n c) ∧ PT X e (tT P Γ C W n c) :=
  ⟨q, PT.of q (varS g h) he⟩
theorem AllS.al : ∀ {cs : List Ex} {es : List Expr}, AllS P Γ C T lev cs → (g : Good P Γ C T lev X sc W) → chkL T X.N sc cs es = true → Al P Γ C W X cs es
  | [], [], _, _, _ => .nil
  | c :: cs, e :: es, s, g, h => by
    simp only [chkL, Bool.and_eq_true] at h
    exact .cons (fun n => s.1.lk g h.1 n) (fun n => (s.1.run g h.1 n).2) (AllS.al s.2 g h.2)
  | [], _ :: _, _, _, h => by simp [chkL] at h
  | _ :: _, [], _, _, h => by simp [chkL] at h
theorem AllS.ar : ∀ {cs : List Ex} {es : List Expr} (n : Nat), AllS P Γ C T lev cs → (g : Good P Γ C T lev X sc W) → chkL T X.N sc cs es = true → PA X es (tAr P Γ C W n cs)
  | [], [], _, _, _, _ => PA.nilV
  | c :: cs, e :: es, n, s, g, h => by
    simp only [chkL, Bool.and_eq_true] at h
    exact PA.consV (s.1.run g h.1 n).1 (AllS.ar (n + 1) s.2 g h.2) (starEach_ok h.1)
  | [], _ :: _, _, _, _, h => by simp [chkL] at h
  | _ :: _, [], _, _, _, h => by simp [chkL] at h
theorem AllS.ak {k : Bool} : ∀ {cs : List Ex} {es : List Expr} (n : Nat), AllS P Γ C T lev cs → (g : Good P Γ C T lev X sc W) → chkL T X.N sc cs es = true → PA X es (tAl P Γ C W n k cs)
  | [], [], _, _, _, _ => PA.nilK
  | c :: cs, e :: es, n, s, g, h => by
    simp only [chkL, Bool.and_eq_true] at h
    exact PA.consK (s.1.run g h.1 n).1 (varS g h.1) (AllS.ak (n + 1) s.2 g h.2) (starEach_ok h.1)
  | [], _ :: _, _, _, _, h => by simp [chkL] at h
  | _ :: _, [], _, _, _, h => by simp [chkL] at h
theorem AllS.ag : ∀ {cs : List Ex} {es : List Expr} (n : Nat), AllS P Γ C T lev cs → (g : Good P Γ C T lev X sc W) → chkL T X.N sc cs es = true → PA X es (tAg P Γ C W n cs)
  | [], [], _, _, _, _ => PA.nilG
  | c :: cs, e :: es, n, s, g, h => by
    simp only [chkL, Bool.and_eq_true] at h
    exact PA.consG (s.1.run g h.1 n).1 (varS g h.1) (AllS.ag (n + 1) s.2 g h.2) (starEach_ok h.1)
  | [], _ :: _, _, _, _, h => by simp [chkL] at h
  | _ :: _, [], _, _, _, h => by simp [chkL] at h
theorem AllS.po {o : Option Expr} (s : AllS P Γ C T lev cs) (g : Good P Γ C T lev X sc W) (h : chkO T X.N sc cs o = true) (n : Nat) : PO X o (tPo P Γ C W n cs) := by
  cases cs with
  | nil =>
    cases o with
    | none => exact PO.nilV
    | some e => simp [chkO] at h
  | cons c cs =>
    cases o with
    | none => simp [chkO] at h
    | some e =>
      cases cs with
      | cons _ _ => simp [chkO] at h
      | nil =>
        have h : chkE T X.N sc c e = true := by simpa [chkO] using h
        exact PO.someV (s.1.lk g h n)
theorem AllS.ifs (s : AllS P Γ C T lev cs) (g : Good P Γ C T lev X sc W) (h : chkI T X.N sc cs es = true) (n : Nat) : PTs X es (tIfs P Γ C W n cs) := by
  cases cs with
  | nil =>
    cases es with
    | nil => exact ⟨fun pins s σ H Q I ⟨w, ρ, k, f⟩ => pts_nil.run pins s σ H Q I (FinG.ok (v := true) k rfl f)⟩
    | cons _ _ => simp [chkI] at h
  | cons c cs =>
    cases cs with
    | cons _ _ =>
      cases es with
      | nil => simp [chkI] at h
      | cons e es => cases es <;> simp [chkI] at h
    | nil =>
      cases es with
      | nil => simp [chkI] at h
      | cons e es =>
        cases es with
        | cons _ _ => simp [chkI] at h
        | nil =>
          have h : chkE T X.N sc c e = true := by simpa [chkI] using h
          exact ⟨fun pins s' σ H Q I ⟨w, ρ, k, f⟩ => (pts_one (s.1.run g h n).2).run pins s' σ H Q I ⟨w, ρ, k, by
            have f : FinG C W n (evB P Γ c ρ) (eff P c || false) w H σ (fun k k' _ _ => k = k') Q := f
            rw [Bool.or_false] at f
            exact f⟩⟩
/-- the context of a comprehension's block -/
theorem Good.blk {scope : Scope} (g : Good P Γ C T lev X sc W) (s : Shared) (H : Hp) (D : Addr) (cl : List (Str × Addr)) (fp : List Addr) : Good P Γ C T lev (X.blk s H scope (compEnvC scope cl D X.env) fp) (relS scope sc) noW where
  nd := g.nd
  sc := by rw [← g.sc]; rfl
  calm := g.calm
  room := g.room
  pass := fun σ pins H s e s' I h => by
    exact passAt (X := X.blk _ _ scope (compEnvC scope cl D X.env) fp) (W := noW) takes0 σ pins H s e s' I h
  blt := g.blt
  fld := g.fld
  mks := g.mks
  mts := g.mts
  fns := g.fns
end
end VS

set_option Elab.async false
set_option linter.all false
set_option maxRecDepth 100000
/-! VP: every expression that the check lets does what the evaluator says (2). -/
namespace VS
open PySem PySem.Spec PyProof.Rows L2
theorem PT.ifeV {P : Pg} {Γ : Ga} {C : Nat → Addr} {X : Cx} {W : WX} {n : Nat} {t a b : Ex} {m l r : Expr} {pos : Pos} (ht : PT X m (tT P Γ C W n t)) (ha : PT X l (tT P Γ C W n a)) (hb : PT X r (tT P Γ C W n b)) : PT X (.IfExp m l r pos) (tT P Γ C W n (.ife t a b)) := by
  refine ⟨fun pins s σ H Q I ⟨w, ρ, k, f⟩ => ?_⟩
  have f : FinG C W n (evB P Γ (.ife t a b) ρ) (eff P t || eff P a || eff P b) w H σ (fun k k' _ _ => k = k') Q := f
  rw [evB_nv rfl, ev_ife, R.assoc] at f
  have q : tT P Γ C W n t σ H fun c H1 => if c = true then tT P Γ C W n a σ H1 Q else tT P Γ C W n b σ H1 Q := by
    refine tT_of k f (fun z => (or_ff (or_ff z).1).1) fun c ρ' w' H' k' f' => ?_
    have nvb : ∀ {c : Ex} {ρ : En}, FinG C W n ((ev P Γ c ρ).bind fun x ρ => bm x.1 ρ) (eff P t || eff P a || eff P b) w' H' σ (fun k k' _ _ => k = k') Q → Ok C w' H' ρ σ → (isVar c = true → True) → FinG C W n ((ev P Γ c ρ).bind fun x ρ => bm x.1 ρ) (eff P t || eff P a || eff P b) w' H' σ (fun k k' _ _ => k = k') Q := fun h _ _ => h
    have fix : ∀ {c : Ex}, ((eff P t || eff P a || eff P b) = false → eff P c = false) → FinG C W n ((ev P Γ c ρ').bind fun x ρ => bm x.1 ρ) (eff P t || eff P a || eff P b) w' H' σ (fun k k' _ _ => k = k') Q → tT P Γ C W n c σ H' Q := fun {c} he h => by
      refine ⟨w', ρ', k', ?_⟩
      show FinG C W n (evB P Γ c ρ') (eff P c) w' H' σ (fun k k' _ _ => k = k') Q
      cases hc : isVar c with
      | false => rw [evB_nv hc]; exact h.effW he
      | true =>
        obtain ⟨i, rfl⟩ : ∃ i, c = .var i := by cases c <;> first | exact ⟨_, rfl⟩ | (simp [isVar] at hc)
        have h2 := h.effW he
        unfold evB VS.look
        unfold ev rdVar at h2
        cases q : slot ρ' i with
        | none => rw [q] at h2; exact h2.elim
        | some dm =>
          obtain ⟨d, mm⟩ := dm
          rw [q] at h2
          dsimp only at h2
          dsimp only
          rw [q]
          show FinG C W n (bm d ρ') _ _ _ _ _ _
          cases d with
          | bl x => exact h2
          | tup xs => split at h2 <;> exact h2.elim
          | _ => exact h2.elim
    cases c with
    | true => exact fix (fun z => (or_ff (or_ff z).1).2) f'
    | false => exact fix (fun z => (or_ff z).2) f'
  show wpAny _ _ (do if ← isTrue m X.env (eval m X.env) then isTrue l X.env (eval l X.env) else isTrue r X.env (eval r X.env)) _ _ _
  refine wpAny_bind (thn (ht.run pins s σ H _ I q) fun c s1 ⟨H1, I1, q1⟩ => ?_)
  cases c with
  | true => exact ha.run pins s1 σ H1 Q I1 q1
  | false => exact hb.run pins s1 σ H1 Q I1 q1
section
variable {P : Pg} {Γ : Ga} {C : Nat → Addr} {T : Tx} {lev : Nat} {a b c d : Ex} {cs : List Ex}
theorem sInt {i : Int} : Snd1 P Γ C T lev (.int i) := ⟨fun {X sc W e} g h n => both g h (by
  unfold chkE at h
  split at h
  · rw [of_decide_eq_true h]; exact PE.imp pe_int fun σ H Q ⟨w, ρ, k, f⟩ => FinE.okI k f rfl
  · cases h) (by unfold chkE at h; split at h; exact fun _ => rfl; cases h)⟩
theorem sStr {i : Str} : Snd1 P Γ C T lev (.str i) := ⟨fun {X sc W e} g h n => both g h (by
  unfold chkE at h
  split at h
  · rw [of_decide_eq_true h]; exact PE.imp pe_str fun σ H Q ⟨w, ρ, k, f⟩ => FinE.okI k f rfl
  · cases h) (by unfold chkE at h; split at h; exact fun _ => rfl; cases h)⟩
theorem sBl {i : Bool} : Snd1 P Γ C T lev (.bl i) := ⟨fun {X sc W e} g h n => both g h (by
  unfold chkE at h
  split at h
  · rw [beq_iff_eq.mp h]; exact PE.imp pe_bl fun σ H Q ⟨w, ρ, k, f⟩ => FinE.okI k f rfl
  · cases h) (by unfold chkE at h; split at h; exact fun _ => rfl; cases h)⟩
theorem sNon : Snd1 P Γ C T lev .non := ⟨fun {X sc W e} g h n => both g h (by
  unfold chkE at h
  split at h
  · exact PE.imp pe_non fun σ H Q ⟨w, ρ, k, f⟩ => FinE.okI k f rfl
  · cases h) (by unfold chkE at h; split at h; exact fun _ => rfl; cases h)⟩
theorem chkV_true {N : List Str} {sc : Scope} {i : Nat} {e : Expr} {env : Env} (h : chkV N sc i e = true) : ∀ whole, isTrue e env whole = (do let v ← whole; standAt e.pos; holding [v] (truthy v)) := by
  obtain ⟨x, p, rfl, _⟩ := chkV_ok h
  exact fun _ => rfl
theorem sVar {i : Nat} : Snd1 P Γ C T lev (.var i) := ⟨fun {X sc W e} g h n => by
  have h2 := h
  unfold chkE at h2
  exact both g h (VS.PE.rdVar (g.var h2)) (chkV_true h2)⟩
theorem sMv {i : Nat} : Snd1 P Γ C T lev (.mv i) := ⟨fun {X sc W e} g h n => by
  have h2 := h
  unfold chkE at h2
  exact both g h (VS.PE.mvVar (g.var h2)) (chkV_true h2)⟩
theorem sBin {op : Bop} (ha : Snd1 P Γ C T lev a) (hb : Snd1 P Γ C T lev b) : Snd1 P Γ C T lev (.bin op a b) := ⟨fun {X sc W e} g h n => by
  have h2 := h
  unfold chkE at h2
  split at h2
  · simp only [Bool.and_eq_true, decide_eq_true_eq] at h2
    obtain ⟨⟨rfl, h3⟩, h4⟩ := h2
    exact both g h (PE.binV (ha.cp g h3 n) (hb.cp g h4 (n + 1)))
  · cases h2⟩
theorem sNeg (ha : Snd1 P Γ C T lev a) : Snd1 P Γ C T lev (.neg a) := ⟨fun {X sc W e} g h n => by
  have h2 := h
  unfold chkE at h2
  split at h2
  · exact both g h (PE.negV (ha.lk g h2 n))
  · cases h2⟩
theorem sCmp {op : Cop} (ha : Snd1 P Γ C T lev a) (hb : Snd1 P Γ C T lev b) : Snd1 P Γ C T lev (.cmp op a b) := ⟨fun {X sc W e} g h n => by
  have h2 := h
  unfold chkE at h2
  split at h2
  · simp only [Bool.and_eq_true, decide_eq_true_eq] at h2
    obtain ⟨⟨rfl, h3⟩, h4⟩ := h2
    exact ⟨PE.cmpV g.hu (ha.lk g h3 n) (hb.lk g h4 (n + 1)) (nomark_ok h4), PT.cmpV g.hu (ha.lk g h3 n) (hb.lk g h4 (n + 1)) (nomark_ok h4)⟩
  · cases h2⟩
theorem sChain {op op' : Cop} (ha : Snd1 P Γ C T lev a) (hb : Snd1 P Γ C T lev b) (hc : Snd1 P Γ C T lev c) : Snd1 P Γ C T lev (.chain op op' a b c) := ⟨fun {X sc W e} g h n => by
  have h2 := h
  unfold chkE at h2
  split at h2
  · simp only [Bool.and_eq_true, decide_eq_true_eq] at h2
    obtain ⟨⟨⟨⟨rfl, rfl⟩, h3⟩, h4⟩, h5⟩ := h2
    exact ⟨PE.chainV g.hu (ha.lk g h3 n) (hb.lk g h4 (n + 1)) (hc.lk g h5 n) (nomark_ok h5), PT.chainV g.hu (ha.lk g h3 n) (hb.lk g h4 (n + 1)) (hc.lk g h5 n) (nomark_ok h5)⟩
  · cases h2⟩
theorem sIsN {ng : Bool} (ha : Snd1 P Γ C T lev a) : Snd1 P Γ C T lev (.isN ng a) := ⟨fun {X sc W e} g h n => by
  have h2 := h
  unfold chkE at h2
  split at h2
  · simp only [Bool.and_eq_true, decide_eq_true_eq] at h2
    obtain ⟨rfl, h3⟩ := h2
    exact ⟨PE.isNV (ha.lk g h3 n), PT.isNV (ha.lk g h3 n)⟩
  · cases h2⟩
theorem ne_nil {α : Type} {l : List α} (h : (!l.isEmpty) = true) : l ≠ [] := fun z => by rw [z] at h; cases h
theorem sAnd (hs : AllS P Γ C T lev cs) : Snd1 P Γ C T lev (.and cs) := ⟨fun {X sc W e} g h n => by
  have h2 := h
  unfold chkE at h2
  split at h2
  · rw [Bool.and_eq_true] at h2
    exact ⟨PE.andV (hs.al g h2.2) (ne_nil h2.1) n, (PT.andV (hs.al g h2.2) (ne_nil h2.1) n).pt⟩
  · cases h2⟩
theorem sOr (hs : AllS P Γ C T lev cs) : Snd1 P Γ C T lev (.or cs) := ⟨fun {X sc W e} g h n => by
  have h2 := h
  unfold chkE at h2
  split at h2
  · rw [Bool.and_eq_true] at h2
    exact ⟨PE.orV (hs.al g h2.2) (ne_nil h2.1) n, (PT.orV (hs.al g h2.2) (ne_nil h2.1) n).pt⟩
  · cases h2⟩
theorem sNot (ha : Snd1 P Γ C T lev a) : Snd1 P Γ C T lev (.not a) := ⟨fun {X sc W e} g h n => by
  have h2 := h
  unfold chkE at h2
  split at h2
  · exact ⟨PE.notV (ha.lk g h2 n), PT.notV (ha.run g h2 n).2⟩
  · cases h2⟩
theorem sIfe (ha : Snd1 P Γ C T lev a) (hb : Snd1 P Γ C T lev b) (hc : Snd1 P Γ C T lev c) : Snd1 P Γ C T lev (.ife a b c) := ⟨fun {X sc W e} g h n => by
  have h2 := h
  unfold chkE at h2
  split at h2
  · simp only [Bool.and_eq_true] at h2
    obtain ⟨⟨h3, h4⟩, h5⟩ := h2
    exact ⟨PE.ifeV (ha.run g h3 n).2 (hb.run g h4 n).1 (hc.run g h5 n).1, PT.ifeV (ha.run g h3 n).2 (hb.run g h4 n).2 (hc.run g h5 n).2⟩
  · cases h2⟩
theorem sLst (hs : AllS P Γ C T lev cs) : Snd1 P Γ C T lev (.lst cs) := ⟨fun {X sc W e} g h n => by
  have h2 := h
  unfold chkE at h2
  split at h2
  · exact both g h (PE.lstV (hs.ar n g h2))
  · cases h2⟩
theorem sTup (hs : AllS P Γ C T lev cs) : Snd1 P Γ C T lev (.tup cs) := ⟨fun {X sc W e} g h n => by
  have h2 := h
  unfold chkE at h2
  split at h2
  · exact both g h (PE.tupV (hs.ar n g h2))
  · cases h2⟩
theorem sDK0 : Snd1 P Γ C T lev .dK0 := ⟨fun {X sc W e} g h n => by
  have h2 := h
  unfold chkE at h2
  split at h2
  · exact both g h PE.dK0V
  · cases h2⟩
theorem sDT0 : Snd1 P Γ C T lev .dT0 := ⟨fun {X sc W e} g h n => by
  have h2 := h
  unfold chkE at h2
  split at h2
  · exact both g h PE.dT0V
  · cases h2⟩
theorem sIx (ha : Snd1 P Γ C T lev a) (hb : Snd1 P Γ C T lev b) : Snd1 P Γ C T lev (.ix a b) := ⟨fun {X sc W e} g h n => by
  have h2 := h
  unfold chkE at h2
  split at h2
  · rw [Bool.and_eq_true] at h2
    exact both g h (PE.ixV (by have := g.hu; omega) (ha.cp g h2.1 n) (hb.lk g h2.2 (n + 1)) (plainIx_ok h2.2))
  · cases h2⟩
theorem sSlc {lo hi : List Ex} (ha : Snd1 P Γ C T lev a) (hl : AllS P Γ C T lev lo) (hh : AllS P Γ C T lev hi) : Snd1 P Γ C T lev (.slc a lo hi) := ⟨fun {X sc W e} g h n => by
  have h2 := h
  unfold chkE at h2
  split at h2
  · simp only [Bool.and_eq_true] at h2
    obtain ⟨⟨h3, h4⟩, h5⟩ := h2
    exact both g h (PE.slcV (ha.cp g h3 n) (hl.po g h4 (n + 1)) (hh.po g h5 (n + 1)))
  · cases h2⟩
theorem sFld {f : Str} (ha : Snd1 P Γ C T lev a) : Snd1 P Γ C T lev (.fld a f) := ⟨fun {X sc W e} g h n => by
  have h2 := h
  unfold chkE at h2
  split at h2
  · simp only [Bool.and_eq_true, decide_eq_true_eq] at h2
    obtain ⟨⟨h3, rfl⟩, h5⟩ := h2
    exact both g h (PE.fldV (fun c => g.fld c f) (ha.cp g h5 n) h3)
  · cases h2⟩
theorem sCall {f : Nat} (hs : AllS P Γ C T lev cs) : Snd1 P Γ C T lev (.call f cs) := ⟨fun {X sc W e} g h n => by
  have h2 := h
  unfold chkE at h2
  split at h2
  · rename_i xs _
    simp only [Bool.and_eq_true, decide_eq_true_eq] at h2
    obtain ⟨⟨⟨⟨⟨rfl, h3⟩, h4⟩, h5⟩, h6⟩, h7⟩ := h2
    cases xs with
    | nil => cases cs with
      | nil => cases h6
      | cons _ _ => simp [chkL] at h7
    | cons y ys => exact both g h (PE.callV g h3 rfl h4 h5 (hs.ag n g h7) h7)
  · cases h2⟩
theorem sMk {f : Nat} (hs : AllS P Γ C T lev cs) : Snd1 P Γ C T lev (.mk f cs) := ⟨fun {X sc W e} g h n => by
  have h2 := h
  unfold chkE at h2
  split at h2
  · rename_i xs _
    simp only [Bool.and_eq_true, decide_eq_true_eq] at h2
    obtain ⟨⟨⟨⟨⟨rfl, h3⟩, h4⟩, h5⟩, h6⟩, h7⟩ := h2
    cases xs with
    | nil => cases cs with
      | nil => cases h6
      | cons _ _ => simp [chkL] at h7
    | cons y ys => exact both g h (PE.mkV g h3 rfl h4 h5 (hs.ag (n + 1) g h7) h7)
  · cases h2⟩
theorem sMeth {i : Nat} {m : Str} (hs : AllS P Γ C T lev cs) : Snd1 P Γ C T lev (.meth i m cs) := ⟨fun {X sc W e} g h n => by
  have h2 := h
  unfold chkE at h2
  split at h2
  · simp only [Bool.and_eq_true, decide_eq_true_eq] at h2
    obtain ⟨⟨⟨⟨rfl, h5⟩, h6⟩, h3⟩, h4⟩ := h2
    exact both g h (PE.methV g h5 h6 h3 (hs.ag (n + 1) g h4) h4)
  · cases h2⟩
theorem sBi {f : Bi} (hs : AllS P Γ C T lev cs) : Snd1 P Γ C T lev (.bi f cs) := ⟨fun {X sc W e} g h n => by
  have h2 := h
  unfold chkE at h2
  split at h2
  · rename_i xs _
    simp only [Bool.and_eq_true, decide_eq_true_eq] at h2
    obtain ⟨⟨⟨rfl, h4⟩, h6⟩, h7⟩ := h2
    cases xs with
    | nil => cases cs with
      | nil => cases h6
      | cons _ _ => simp [chkL] at h7
    | cons y ys => exact both g h (PE.biV g h4 (hs.ak n g h7) h7)
  · cases h2⟩
theorem sIsI {t : Ty} (ha : Snd1 P Γ C T lev a) : Snd1 P Γ C T lev (.isI a t) := ⟨fun {X sc W e} g h n => by
  have h2 := h
  unfold chkE at h2
  split at h2
  · simp only [Bool.and_eq_true, decide_eq_true_eq] at h2
    obtain ⟨⟨⟨⟨⟨rfl, h3⟩, h4⟩, rfl⟩, h6⟩, h7⟩ := h2
    exact both g h (PE.isIV g h3 h6 (fun c z => by subst z; cases h7) (ha.lk g h4 n) h4)
  · cases h2⟩
theorem sPop {i : Nat} : Snd1 P Γ C T lev (.pop i) := ⟨fun {X sc W e} g h n => by
  have h2 := h
  unfold chkE at h2
  split at h2
  · simp only [Bool.and_eq_true, decide_eq_true_eq] at h2
    obtain ⟨⟨rfl, h3⟩, h4⟩ := h2
    obtain ⟨x, p, rfl, _⟩ := chkV_ok h4
    exact both g h (PE.popV (g.var h4) rfl h3)
  · cases h2⟩
theorem sPopAt {i : Nat} (ha : Snd1 P Γ C T lev a) : Snd1 P Γ C T lev (.popAt i a) := ⟨fun {X sc W e} g h n => by
  have h2 := h
  unfold chkE at h2
  split at h2
  · simp only [Bool.and_eq_true, decide_eq_true_eq] at h2
    obtain ⟨⟨⟨rfl, h3⟩, h4⟩, h5⟩ := h2
    obtain ⟨x, p, rfl, _⟩ := chkV_ok h4
    exact both g h (PE.popAtV (g.var h4) (ha.lk g h5 n) h5 rfl h3)
  · cases h2⟩
theorem lookup_map (f : Str → NameKind → NameKind) (x : Str) : ∀ l : List (Str × NameKind), (l.map fun p => (p.1, f p.1 p.2)).lookup x = (l.lookup x).map (f x)
  | [] => rfl
  | (y, k) :: r => by
    rw [List.map_cons, List.lookup_cons, List.lookup_cons]
    cases h : x == y with
    | true => rw [beq_iff_eq.mp h]; rfl
    | false => exact lookup_map f x r
theorem relS_loc {scope sc : Scope} {x : Str} (h : VS.loc scope x = true) : (relS scope sc).names.lookup x = some .local ∧ scope.names.lookup x = some .local ∨ (relS scope sc).names.lookup x = some .cell ∧ scope.names.lookup x = some .cell := by
  have e : (relS scope sc).names.lookup x = (scope.names.lookup x).map (fun k => if (k == .free && sc.kind == .function && sc.names.lookup x == some .cell) then .cell else k) := by
    rw [← lookup_map (fun n k => if (k == .free && sc.kind == .function && sc.names.lookup n == some .cell) then .cell else k)]
    show List.lookup x (scope.names.map _) = _
    congr 2
    funext p
    obtain ⟨n, k⟩ := p
    dsimp only
    split <;> rfl
  rcases loc_ok h with q | q
  · exact .inl ⟨by rw [e, q]; rfl, q⟩
  · exact .inr ⟨by rw [e, q]; rfl, q⟩
theorem blk_loc {X : Cx} {scope : Scope} {D : Addr} {cl : List (Str × Addr)} {s : Shared} {H : Hp} {fp : List Addr} (x : Str) (h : VS.loc scope x = true) : Loc (X.blk s H scope (compEnvC scope cl D X.env) fp).env.scope x ∧ ((X.blk s H scope (compEnvC scope cl D X.env) fp).fn x = true ∨ (X.blk s H scope (compEnvC scope cl D X.env) fp).env.scope.names.lookup x = some .local) := by
  rcases relS_loc (sc := X.env.scope) h with ⟨q, _⟩ | ⟨q, q2⟩
  · exact ⟨.inl q, .inr q⟩
  · refine ⟨.inr q, .inl ?_⟩
    show (scope.names.lookup x == some .cell) = true
    rw [q2]
    rfl
theorem ownN_ix {N : List Str} (own : List Nat) : (ownN N own).map (·.2) = own := by
  unfold ownN
  rw [List.map_map]
  exact List.map_id _
theorem notSet {N : List Str} {sc : Scope} {c : Ex} {e : Expr} {env : Env} (h : chkE T N sc c e = true) : ∀ x, foldedSetIterable e env x = pure x := by
  cases e with
  | Set x k p => cases c <;> first | (cases h; done) | (simp [chkE, chkV] at h)
  | _ => intro _; rfl
/-- what a comprehension asks, for its value and for its name -/
structure LcP (X : Cx) (y t x : Expr) (cs : List Expr) (scope : Scope) (te : TE) : Prop where
  ex : ∃ (own : List (Str × Nat)) (wi : TI) (gg : TG) (tt : TT) (tel : TE), PI X t x wi ∧ BlkOk X.N X.env.scope scope own ∧ (∀ (s : Shared) (H : Hp) (D : Addr) (cl : List (Str × Addr)) (fp : List Addr), PG (X.blk s H scope (compEnvC scope cl D X.env) fp) t gg) ∧
    (∀ (s : Shared) (H : Hp) (D : Addr) (cl : List (Str × Addr)) (fp : List Addr), PTs (X.blk s H scope (compEnvC scope cl D X.env) fp) cs tt) ∧ (∀ (s : Shared) (H : Hp) (D : Addr) (cl : List (Str × Addr)) (fp : List Addr), PE (X.blk s H scope (compEnvC scope cl D X.env) fp) y tel) ∧
    (∀ v, foldedSetIterable x X.env v = pure v) ∧ ∀ σ H Q, te σ H Q → tLc wi gg tt tel (own.map (·.2)) σ H Q
theorem LcP.pe {X : Cx} {y t x : Expr} {cs : List Expr} {scope : Scope} {te : TE} {pos : Pos} (hc : X.calm = true) (nd : X.N.Nodup) (h : LcP X y t x cs scope te) : PE X (.ListComp y [⟨t, x, cs, 0⟩] scope pos) te := by
  obtain ⟨own, wi, gg, tt, tel, h1, h2, h3, h4, h5, h6, h7⟩ := h.ex
  exact PE.imp (pe_lc hc nd h1 h2 h3 h4 h5 h6) h7
theorem lcL {own : List Nat} {tup : Bool} {tg : List Nat} {ifs : List Ex} {X : Cx} {sc : Scope} {W : WX} {y t x : Expr} {cs : List Expr} {scope : Scope} {pos : Pos} (ha : Snd1 P Γ C T lev a) (hi : AllS P Γ C T lev ifs) (hb : Snd1 P Γ C T lev b) (g : Good P Γ C T lev X sc W)
    (h : chkE T X.N sc (.compL own tup tg a ifs b) (.ListComp y [⟨t, x, cs, 0⟩] scope pos) = true) (n : Nat) : LcP X y t x cs scope (tE P Γ C W n (.compL own tup tg a ifs b)) := by
  have h2 := h
  unfold chkE at h2
  simp only [Bool.and_eq_true, decide_eq_true_eq] at h2
  obtain ⟨⟨⟨⟨⟨h3, h4⟩, h5⟩, h6⟩, h7⟩, h8⟩ := h2
  refine ⟨ownN X.N own, _, gTg X.K tup tg, tIfs P Γ C noW (n + 1) ifs, tE P Γ C noW (n + 1) b, pi_list (ha.cp g h3 n), by rw [g.sc]; exact blkOk_by h4,
    fun s H D cl fp => PG.tgV (X := X.blk s H scope (compEnvC scope cl D X.env) fp) g.nd g.calm blk_loc h5,
    fun s H D cl fp => hi.ifs (g.blk s H D cl fp) h7 (n + 1), fun s H D cl fp => (hb.run (g.blk s H D cl fp) h8 (n + 1)).1, notSet h3, fun σ H Q ⟨w, ρ, k, f⟩ => ?_⟩
  have sub : ∀ i ∈ tg, i ∈ own := fun i hi => of_decide_eq_true (List.all_eq_true.mp h6 i hi)
  have f : FinE C W n ((VS.cpy a (ev P Γ a ρ) ρ).bind fun x ρ => if isVar a && (effL P ifs || eff P b) then .bad else match x with
    | .lst ds => (compGo (compS own tup tg (evIfs P Γ ifs) (ev P Γ b)) ds [] (wipeE own ρ)).bind fun xs ρ => .ok (lstOf xs) ρ
    | _ => .bad) (eff P a || effL P ifs || eff P b) w H σ Q := f
  rw [← FinG.fin] at f
  refine ⟨w, ρ, k, FinG.bind f (fun z => (or_ff (or_ff z).1).1) fun x ρ1 v w1 H1 _ ev1 k1 l1 s1 f1 => ?_⟩
  cases hv : isVar a && (effL P ifs || eff P b) with
  | true => rw [hv] at f1; exact f1.elim
  | false =>
    rw [hv, if_neg Bool.false_ne_true] at f1
    cases x with
    | lst ds =>
      rw [FinG.fin] at f1
      have f1 : FinE C W n ((compGo (compS own tup tg (evIfs P Γ ifs) (ev P Γ b)) ds [] (wipeE own ρ1)).bind fun xs ρ => .ok (lstOf xs) ρ) (eff P a || effL P ifs || eff P b) w1 H1 σ Q := f1
      obtain ⟨q, vs, e1, hR, rl⟩ := l1.1
      have keep : ∀ w H, Evo n w1 H1 w H → ((effL P ifs || eff P b) = false → Same H1 H) → Rd H q (.lst vs) ∧ RepL C w H ds .fz (.s 0) vs := fun w' H' ev' s' => by
        refine ⟨?_, rl.fzEvo ev'⟩
        cases hc : isVar a with
        | true => rw [hc, Bool.true_and] at hv; exact Rd.same (s' hv) hR
        | false =>
          obtain ⟨q', vs', e', _, hH, hr⟩ := (l1.2 hc).fzEvo (i' := .t n) ev'
          subst e1
          cases e'
          have : vs' = vs := by
            obtain ⟨q2, vs2, e2, hw2, hH2, _⟩ := l1.2 hc
            cases e2
            have e3 : vs2 = vs := by
              rcases hR with u | ⟨o, u⟩ <;> rcases hH2 with z | ⟨_, o', z⟩ <;> rw [u] at z <;> cases z <;> rfl
            subst e3
            have hd : Held n (w1 q) := .inr (.inl hw2)
            rcases hH2 with z | ⟨_, o', z⟩ <;> have z2 := ev'.kH q _ z hd <;> rcases hH with y | ⟨_, o2, y⟩ <;> rw [y] at z2 <;> cases z2 <;> rfl
          subst this
          rcases hH with y | ⟨_, o, y⟩
          · exact .inl y
          · exact .inr ⟨o, y⟩
      refine ⟨q, e1, ⟨vs, .inl hR⟩, fun D hD => ?_⟩
      rw [ownN_ix]
      refine lc_list (xs := vs) (CompI P Γ C n own tup tg ifs b ds (wipeE own ρ1) w1 H1 σ D) (compI_0 k1 hD) (fun i H' _ hI => ?_) (fun i x H' hx hI => ?_) fun H' hI => ?_
      · obtain ⟨w', ρ', acc, us, ev', s', _⟩ := hI
        exact .inl (keep w' H' ev' s').1
      · obtain ⟨dd, hd, _⟩ := rl.getV hx
        exact compI_step sub hD hd (comp_nb f1) (fun w' H' ev' s' => by
          obtain ⟨u, hu, ru⟩ := (keep w' H' ev' s').2.get hd
          rw [hx] at hu
          cases hu
          exact ru) hI
      · exact compI_end (by rw [rl.length]; exact Nat.le_refl _) (fun z => by
          have z1 := or_ff z
          rw [(or_ff z1.1).2, z1.2]; rfl) f1 hI
    | _ => exact f1.elim
theorem sCompL {own : List Nat} {tup : Bool} {tg : List Nat} {ifs : List Ex} (ha : Snd1 P Γ C T lev a) (hi : AllS P Γ C T lev ifs) (hb : Snd1 P Γ C T lev b) : Snd1 P Γ C T lev (.compL own tup tg a ifs b) := ⟨fun {X sc W e} g h n => by
  have h2 := h
  unfold chkE at h2
  split at h2
  · exact both g h ((lcL ha hi hb g h n).pe g.calm g.nd)
  · cases h2⟩
theorem evL_len : ∀ {cs : List Ex} {ρ ρ' : En} {xs : List (D × Md)}, evL P Γ cs ρ = .ok xs ρ' → xs.length = cs.length
  | [], _, _, _, h => by cases h; rfl
  | c :: cs, ρ, ρ', xs, h => by
    have h : ((ev P Γ c ρ).bind fun x ρ => (evL P Γ cs ρ).bind fun xs ρ => .ok (x :: xs) ρ) = .ok xs ρ' := h
    cases h1 : ev P Γ c ρ with
    | ok x ρ1 =>
      rw [h1] at h
      have h : ((evL P Γ cs ρ1).bind fun xs ρ => .ok (x :: xs) ρ) = .ok xs ρ' := h
      cases h2 : evL P Γ cs ρ1 with
      | ok ys ρ2 =>
        rw [h2] at h
        cases h
        rw [List.length_cons, List.length_cons, evL_len h2]
      | exc _ _ _ => rw [h2] at h; cases h
      | bad => rw [h2] at h; cases h
    | exc _ _ _ => rw [h1] at h; cases h
    | bad => rw [h1] at h; cases h
theorem int_drop {lo : Int} {k i : Nat} (h : i < k) : ((List.range k).map fun j => D.int (lo + (j : Nat)))[i]? = some (.int (lo + i)) := by
  rw [List.getElem?_map, List.getElem?_range h]
  rfl
/-- the range's numbers, from its arguments -/
theorem rng_read {X : Cx} {W : WX} {n : Nat} {w : Wh} {H : Hp} {xs : List (D × Md)} {vs : List V} {lo : Int} {k : Nat} (r : RepA C w H n xs vs) (h : rngD (xs.map (·.1)) = some (lo, k)) :
    (∃ j : Int, xs.length = 1 ∧ vs = [.int j] ∧ -(2 ^ 62) ≤ j ∧ j < 2 ^ 62 ∧ lo = 0 ∧ k = j.toNat) ∨ (∃ i j : Int, xs.length = 2 ∧ vs = [.int i, .int j] ∧ (-(2 ^ 62) ≤ i ∧ i < 2 ^ 62 ∧ -(2 ^ 62) ≤ j ∧ j < 2 ^ 62) ∧ lo = i ∧ k = (j - i).toNat) := by
  unfold rngD at h
  split at h
  · rename_i j he
    split at h
    · rename_i hb
      simp only [Bool.and_eq_true, decide_eq_true_eq] at hb
      cases h
      cases xs with
      | nil => simp at he
      | cons x xs =>
        cases xs with
        | cons _ _ => simp at he
        | nil =>
          obtain ⟨v, vr, e1, r1, r2⟩ := r
          rw [show vr = [] from r2] at e1
          have hx : x.1 = .int j := by simpa using he
          rw [hx] at r1
          rw [show v = _ from r1] at e1
          exact .inl ⟨j, rfl, e1, hb.1, hb.2, rfl, rfl⟩
    · cases h
  · rename_i i j he
    split at h
    · rename_i hb
      simp only [Bool.and_eq_true, decide_eq_true_eq] at hb
      cases h
      cases xs with
      | nil => simp at he
      | cons x xs =>
        cases xs with
        | nil => simp at he
        | cons y xs =>
          cases xs with
          | cons _ _ => simp at he
          | nil =>
            obtain ⟨v, vr, e1, r1, v2, vr2, e2, r2, r3⟩ := r
            rw [show vr2 = [] from r3] at e2
            have hx : x.1 = .int lo ∧ y.1 = .int j := by simpa using he
            rw [hx.1] at r1
            rw [hx.2] at r2
            rw [show v = _ from r1, e2, show v2 = _ from r2] at e1
            exact .inr ⟨lo, j, rfl, e1, ⟨hb.1.1.1, hb.1.1.2, hb.1.2, hb.2⟩, rfl, rfl⟩
    · cases h
  · cases h
theorem lcR {own : List Nat} {tg : Nat} {as ifs : List Ex} {X : Cx} {sc : Scope} {W : WX} {y t : Expr} {r : Str} {rp pp : Pos} {xs cs : List Expr} {scope : Scope} {pos : Pos} (ha : AllS P Γ C T lev as) (hi : AllS P Γ C T lev ifs) (hb : Snd1 P Γ C T lev b) (g : Good P Γ C T lev X sc W)
    (h : chkE T X.N sc (.compR own tg as ifs b) (.ListComp y [⟨t, .Call (.Name r rp) xs [] pp, cs, 0⟩] scope pos) = true) (n : Nat) : LcP X y t (.Call (.Name r rp) xs [] pp) cs scope (tE P Γ C W n (.compR own tg as ifs b)) := by
  have h2 := h
  unfold chkE at h2
  simp only [Bool.and_eq_true, decide_eq_true_eq] at h2
  obtain ⟨⟨⟨⟨⟨⟨⟨⟨rfl, h3⟩, h4⟩, h5⟩, h6⟩, h7⟩, h8⟩, h9⟩, h10⟩ := h2
  have sub : ∀ i ∈ [tg], i ∈ own := fun i hi => by rw [List.mem_singleton.mp hi]; exact h8
  have hxs : xs.length = as.length := by
    have : ∀ {cs : List Ex} {es : List Expr}, chkL T X.N sc cs es = true → es.length = cs.length := fun {cs} => by
      induction cs with
      | nil => intro es q; cases es with
        | nil => rfl
        | cons _ _ => simp [chkL] at q
      | cons c cs ih => intro es q; cases es with
        | nil => simp [chkL] at q
        | cons e es => simp only [chkL, Bool.and_eq_true] at q; rw [List.length_cons, List.length_cons, ih q.2]
    exact this h5
  have main : ∀ {wi : TI}, PI X t (.Call (.Name "range" rp) xs [] pp) wi → (∀ σ H K0, (∃ w ρ, Ok C w H ρ σ ∧ FinG C W n ((evL P Γ as ρ).bind fun xs ρ => R.opt (rngD (xs.map (·.1))) ρ) (effL P as) w H σ (fun (p : Int × Nat) (J : It) w H => J = Itr p.1 p.2) K0) → wi σ H K0) →
      LcP X y t (.Call (.Name "range" rp) xs [] pp) cs scope (tE P Γ C W n (.compR own tg as ifs b)) := fun {wi} hpi hwi => by
    refine ⟨ownN X.N own, _, gTg X.K false [tg], tIfs P Γ C noW (n + 1) ifs, tE P Γ C noW (n + 1) b, hpi, by rw [g.sc]; exact blkOk_by h6,
      fun s H D cl fp => pg_one (X := X.blk s H scope (compEnvC scope cl D X.env) fp) g.nd blk_loc h7,
      fun s H D cl fp => hi.ifs (g.blk s H D cl fp) h9 (n + 1), fun s H D cl fp => (hb.run (g.blk s H D cl fp) h10 (n + 1)).1, fun _ => rfl, fun σ H Q ⟨w, ρ, k, f⟩ => ?_⟩
    have f : FinE C W n ((evL P Γ as ρ).bind fun xs ρ => match rngD (xs.map (·.1)) with
      | some (lo, m) => (compGo (compS own false [tg] (evIfs P Γ ifs) (ev P Γ b)) ((List.range m).map fun j => .int (lo + (j : Nat))) [] (wipeE own ρ)).bind fun xs ρ => .ok (lstOf xs) ρ
      | none => .bad) (effL P as || effL P ifs || eff P b) w H σ Q := f
    have e : ((evL P Γ as ρ).bind fun xs ρ => match rngD (xs.map (·.1)) with
      | some (lo, m) => (compGo (compS own false [tg] (evIfs P Γ ifs) (ev P Γ b)) ((List.range m).map fun j => .int (lo + (j : Nat))) [] (wipeE own ρ)).bind fun xs ρ => .ok (lstOf xs) ρ
      | none => .bad) = ((evL P Γ as ρ).bind fun xs ρ => R.opt (rngD (xs.map (·.1))) ρ).bind fun p ρ => (compGo (compS own false [tg] (evIfs P Γ ifs) (ev P Γ b)) ((List.range p.2).map fun j => .int (p.1 + (j : Nat))) [] (wipeE own ρ)).bind fun xs ρ => .ok (lstOf xs) ρ := by
      rw [R.assoc]
      congr 1
      funext xs ρ
      cases rngD (xs.map (·.1)) with
      | none => rfl
      | some p => rfl
    rw [e, ← FinG.fin] at f
    refine hwi σ H _ ⟨w, ρ, k, FinG.bind f (fun z => (or_ff (or_ff z).1).1) fun p ρ1 J w1 H1 _ ev1 k1 l1 s1 f1 => ?_⟩
    subst l1
    rw [FinG.fin] at f1
    intro D hD
    rw [ownN_ix]
    refine lc_range (CompI P Γ C n own false [tg] ifs b ((List.range p.2).map fun j => .int (p.1 + (j : Nat))) (wipeE own ρ1) w1 H1 σ D) (compI_0 k1 hD) (fun i H' hi hI => ?_) fun H' hI => ?_
    · exact compI_step (K := X.K) sub hD (int_drop hi) (comp_nb f1) (fun w' H' ev' s' => rfl) hI
    · exact compI_end (by simp) (fun z => by
        have z1 := or_ff z
        rw [(or_ff z1.1).2, z1.2]; rfl) f1 hI
  have pa := ha.ar n g h5
  rcases h4 with h4 | h4
  · obtain ⟨x1, rfl⟩ : ∃ x1, xs = [x1] := by
      rw [← hxs] at h4
      cases xs with
      | nil => cases h4
      | cons x1 xs => cases xs with
        | nil => exact ⟨x1, rfl⟩
        | cons _ _ => cases h4
    obtain ⟨c1, rfl⟩ : ∃ c1, as = [c1] := by
      cases as with
      | nil => cases h4
      | cons x1 xs => cases xs with
        | nil => exact ⟨x1, rfl⟩
        | cons _ _ => cases h4
    have hc1 : chkE T X.N sc c1 x1 = true := by simpa [chkL] using h5
    refine main (pi_range1 (g.glb h3) (g.blt _ (by decide)) pa (starEach_ok hc1)) fun σ H R ⟨w, ρ, k, f⟩ => ?_
    refine ⟨w, ρ, k, FinG.bind f (fun z => z) fun xs ρ1 vs w1 H1 hx ev1 k1 r1 s1 f1 => ?_⟩
    have hl := evL_len hx
    obtain ⟨p, e, f2⟩ := FinG.opt0 f1
    rcases rng_read (X := X) (W := W) r1 e with ⟨j, _, e1, e2, e3, e4, e5⟩ | ⟨i, j, q, _⟩
    · refine ⟨j, e1, e2, e3, FinG.ok k1 ?_ f2⟩
      rw [e4, e5]
    · rw [hl] at q; cases q
  · obtain ⟨x1, x2, rfl⟩ : ∃ x1 x2, xs = [x1, x2] := by
      rw [← hxs] at h4
      cases xs with
      | nil => cases h4
      | cons x1 xs => cases xs with
        | nil => cases h4
        | cons x2 xs => cases xs with
          | nil => exact ⟨x1, x2, rfl⟩
          | cons _ _ => cases h4
    obtain ⟨c1, c2, rfl⟩ : ∃ c1 c2, as = [c1, c2] := by
      cases as with
      | nil => cases h4
      | cons x1 xs => cases xs with
        | nil => cases h4
        | cons x2 xs => cases xs with
          | nil => exact ⟨x1, x2, rfl⟩
          | cons _ _ => cases h4
    have hc1 : chkE T X.N sc c1 x1 = true ∧ chkE T X.N sc c2 x2 = true := by simpa [chkL] using h5
    have s1 := starEach_ok (es := [x2]) (env := X.env) hc1.1
    have s2 := starEach_ok (es := []) (env := X.env) hc1.2
    refine main (pi_range2 (g.glb h3) (g.blt _ (by decide)) pa (by rw [s1, s2]; rfl) s2) fun σ H R ⟨w, ρ, k, f⟩ => ?_
    refine ⟨w, ρ, k, FinG.bind f (fun z => z) fun xs ρ1 vs w1 H1 hx ev1 k1 r1 s1 f1 => ?_⟩
    have hl := evL_len hx
    obtain ⟨p, e, f2⟩ := FinG.opt0 f1
    rcases rng_read (X := X) (W := W) r1 e with ⟨j, q, _⟩ | ⟨i, j, _, e1, e2, e4, e5⟩
    · rw [hl] at q; cases q
    · refine ⟨i, j, e1, e2, FinG.ok k1 ?_ f2⟩
      rw [e4, e5]
theorem sCompR {own : List Nat} {tg : Nat} {as ifs : List Ex} (ha : AllS P Γ C T lev as) (hi : AllS P Γ C T lev ifs) (hb : Snd1 P Γ C T lev b) : Snd1 P Γ C T lev (.compR own tg as ifs b) := ⟨fun {X sc W e} g h n => by
  have h2 := h
  unfold chkE at h2
  split at h2
  · exact both g h ((lcR ha hi hb g h n).pe g.calm g.nd)
  · cases h2⟩
theorem sSh {i : Nat} : Snd1 P Γ C T lev (.sh i) := ⟨fun {X sc W e} g h n => by
  have h2 := h
  unfold chkE at h2
  have q : PE X e (tE P Γ C W n (.var i)) := VS.PE.rdVar (g.var h2)
  exact both g h q (chkV_true h2)⟩
theorem sNo (hc : ∀ N sc e, chkE T N sc c e = false) : Snd1 P Γ C T lev c := ⟨fun {X sc W e} g h n => by rw [hc] at h; cases h⟩
mutual
theorem snd : ∀ c : Ex, Snd1 P Γ C T lev c
  | .int _ => sInt
  | .str _ => sStr
  | .bl _ => sBl
  | .non => sNon
  | .var _ => sVar
  | .mv _ => sMv
  | .bin _ a b => sBin (snd a) (snd b)
  | .neg a => sNeg (snd a)
  | .cmp _ a b => sCmp (snd a) (snd b)
  | .chain _ _ a b c => sChain (snd a) (snd b) (snd c)
  | .isN _ a => sIsN (snd a)
  | .and es => sAnd (sndL es)
  | .or es => sOr (sndL es)
  | .not a => sNot (snd a)
  | .ife t a b => sIfe (snd t) (snd a) (snd b)
  | .lst es => sLst (sndL es)
  | .tup es => sTup (sndL es)
  | .dK0 => sDK0
  | .dT0 => sDT0
  | .ix a b => sIx (snd a) (snd b)
  | .slc a lo hi => sSlc (snd a) (sndL lo) (sndL hi)
  | .fld a _ => sFld (snd a)
  | .call _ es => sCall (sndL es)
  | .bi _ es => sBi (sndL es)
  | .isI a _ => sIsI (snd a)
  | .pop _ => sPop
  | .popAt _ e => sPopAt (snd e)
  | .compR _ _ as ifs e => sCompR (sndL as) (sndL ifs) (snd e)
  | .compL _ _ _ a ifs e => sCompL (snd a) (sndL ifs) (snd e)
  | .sh _ => sSh
  | .mk _ es => sMk (sndL es)
  | .meth _ _ es => sMeth (sndL es)
  | .hole => sNo fun _ _ _ => by unfold chkE; rfl
theorem sndL : ∀ cs : List Ex, AllS P Γ C T lev cs
  | [] => trivial
  | c :: r => ⟨snd c, sndL r⟩
end
end
end VS

set_option Elab.async false
set_option linter.all false
set_option maxRecDepth 100000
/-! VQ: statements. -/
namespace VS
open PySem PySem.Spec PyProof.Rows L2
/-- slots that stand as they are -/
def Fx (fx : Nat → Bool) (σ σ' : L2.St) : Prop := ∀ j, fx j = true → σ'[j]? = σ[j]?
theorem Fx.refl {fx : Nat → Bool} {σ : L2.St} : Fx fx σ σ := fun _ _ => rfl
theorem Fx.trans {fx : Nat → Bool} {σ σ1 σ2 : L2.St} (a : Fx fx σ σ1) (b : Fx fx σ1 σ2) : Fx fx σ σ2 := fun j h => (b j h).trans (a j h)
theorem Fx.set {fx : Nat → Bool} {σ : L2.St} {i : Nat} {x : Option V} (h : fx i = false) : Fx fx σ (σ.set i x) := fun j hj => by
  rw [List.getElem?_set_ne (fun z => by subst z; rw [h] at hj; cases hj)]
theorem Fx.setV {fx : Nat → Bool} : ∀ {is : List Nat} {vs : List V} {σ : L2.St}, (∀ i ∈ is, fx i = false) → Fx fx σ (setV is vs σ)
  | [], _, _, _ => .refl
  | _ :: _, [], _, _ => .refl
  | i :: is, v :: vs, σ, h => (Fx.set (h i List.mem_cons_self)).trans (Fx.setV (fun j hj => h j (List.mem_cons_of_mem _ hj)))
/-- what is wanted behind a statement -/
def FinS (C : Nat → Addr) (W : WX) (fx : Nat → Bool) (r : Fl) (w : Wh) (H : Hp) (σ : L2.St) (D : Ends) : Prop := match r with
  | .nx ρ => ∀ σ' w' H', Evo 0 w H w' H' → Fx fx σ σ' → Ok C w' H' ρ σ' → D.nx σ' H'
  | .ret x ρ => ∀ v σ' w' H', Evo 0 w H w' H' → Fx fx σ σ' → Ok C w' H' ρ σ' → Rep C w' H' x.1 x.2 (.t 0) v → D.rt v H'
  | .brk ρ => ∀ σ' w' H', Evo 0 w H w' H' → Fx fx σ σ' → Ok C w' H' ρ σ' → D.bk σ' H'
  | .cnt ρ => ∀ σ' w' H', Evo 0 w H w' H' → Fx fx σ σ' → Ok C w' H' ρ σ' → D.ct σ' H'
  | .exc c fs ρ => ∀ dx fv σ' w' H', Evo 0 w H w' H' → Fx fx σ σ' → Ok C w' H' ρ σ' → H' dx = some (.xd fv) → RepF C w' H' fs .fz (.t 0) fv → W (.ref (C c)) (some dx) σ' H'
  | .bad => False
section
variable {P : Pg} {Γ : Ga} {C : Nat → Addr} {T : Tx} {lev : Nat} {X : Cx} {sc : Scope} {W : WX} {n : Nat} {a b c : Ex} {l r m e : Expr} {pos : Pos} {ρ ρ' : En} {w w' : Wh} {H H' : Hp} {σ σ' : L2.St} {cs : List Ex} {es : List Expr} {fx : Nat → Bool} {D : Ends}
theorem FinS.evo {r : Fl} (ev : Evo 0 w H w' H') (fs : Fx fx σ σ') (f : FinS C W fx r w H σ D) : FinS C W fx r w' H' σ' D := by
  cases r with
  | nx ρ => exact fun s2 w2 H2 e2 f2 k => f s2 w2 H2 (ev.trans e2) (fs.trans f2) k
  | ret x ρ => exact fun v s2 w2 H2 e2 f2 k r => f v s2 w2 H2 (ev.trans e2) (fs.trans f2) k r
  | brk ρ => exact fun s2 w2 H2 e2 f2 k => f s2 w2 H2 (ev.trans e2) (fs.trans f2) k
  | cnt ρ => exact fun s2 w2 H2 e2 f2 k => f s2 w2 H2 (ev.trans e2) (fs.trans f2) k
  | exc c fs2 ρ => exact fun dx fv s2 w2 H2 e2 f2 k x r => f dx fv s2 w2 H2 (ev.trans e2) (fs.trans f2) k x r
  | bad => exact f
theorem FinS.bind {α β : Type} {x : R α} {f : α → En → Fl} {e : Bool} {L : α → β → Wh → Hp → Prop} {Q : β → Hp → Prop} (h : FinS C W fx (x.fl f) w H σ D)
    (k : ∀ a ρ' v w' H', x = .ok a ρ' → Evo n w H w' H' → Ok C w' H' ρ' σ → L a v w' H' → FinS C W fx (f a ρ') w' H' σ D → Q v H') : FinG C W n x e w H σ L Q := by
  cases x with
  | ok a ρ' => exact fun v w' H' ev kk l s => k a ρ' v w' H' rfl ev kk l (FinS.evo (ev.weak (Nat.zero_le n)) .refl h)
  | exc c fs ρ' => exact fun dx fv w' H' ev kk l r => h dx fv σ w' H' (ev.weak (Nat.zero_le n)) .refl kk l r.fzId
  | bad => exact h
theorem FinS.go {ρ : En} (k : Ok C w H ρ σ) (h : FinS C W fx (.nx ρ) w H σ D) : D.nx σ H := h σ w H .refl .refl k
/-- a statement's reading -/
def tS (P : Pg) (Γ : Ga) (C : Nat → Addr) (W : WX) (fx : Nat → Bool) (s : Sm) : TS := fun D σ H => ∃ w ρ, Ok C w H ρ σ ∧ FinS C W fx (exS P Γ s ρ) w H σ D
def tSs (P : Pg) (Γ : Ga) (C : Nat → Addr) (W : WX) (fx : Nat → Bool) (s : List Sm) : TS := fun D σ H => ∃ w ρ, Ok C w H ρ σ ∧ FinS C W fx (exSs P Γ s ρ) w H σ D
theorem PSs.nilV : PSs X [] (tSs P Γ C W fx []) := PSs.imp pss_nil fun D σ H ⟨w, ρ, k, f⟩ => FinS.go k f
theorem PSs.consV {st : Stmt} {rest : List Stmt} {s : Sm} {ss : List Sm} (h : PS X st (tS P Γ C W fx s)) (hr : PSs X rest (tSs P Γ C W fx ss)) : PSs X (st :: rest) (tSs P Γ C W fx (s :: ss)) := by
  refine PSs.imp (pss_cons h hr) fun D σ H ⟨w, ρ, k, f⟩ => ⟨w, ρ, k, ?_⟩
  have f : FinS C W fx ((exS P Γ s ρ).seq fun ρ => exSs P Γ ss ρ) w H σ D := f
  cases hr : exS P Γ s ρ with
  | nx ρ1 => rw [hr] at f; exact fun σ' w' H' ev fs k' => ⟨w', ρ1, k', FinS.evo ev fs f⟩
  | ret x ρ1 => rw [hr] at f; exact f
  | brk ρ1 => rw [hr] at f; exact f
  | cnt ρ1 => rw [hr] at f; exact f
  | exc c fs ρ1 => rw [hr] at f; exact f
  | bad => rw [hr] at f; exact f
/-- what a def's body needs -/
structure GoodS (P : Pg) (Γ : Ga) (C : Nat → Addr) (T : Tx) (lev : Nat) (X : Cx) (sc : Scope) (W : WX) : Prop where
  g : Good P Γ C T lev X sc W
  own : PassesOwn (model X.prog X.w) X.A X.env X.xe
  lo : ∀ x, VS.loc sc x = true → Loc X.env.scope x ∧ (X.fn x = true ∨ X.env.scope.names.lookup x = some .local)
/-! ### values put at names -/
theorem evo_mov {i : Nat} : Evo 0 w H (mov (.t 0) (.s i) w) H := Evo.mov fun l z => by cases z; exact Nat.zero_le _
theorem set_read {i : Nat} {c : Ex} (hi : fx i = false) (h : tS P Γ C W fx (.set i c) D σ H) : tE P Γ C W 0 c σ H fun x H1 => D.nx (σ.set i (some x)) H1 := by
  obtain ⟨w, ρ, k, f⟩ := h
  have f : FinS C W fx ((ev P Γ c ρ).fl fun x ρ => .nx (ρ.set i (some x))) w H σ D := f
  refine ⟨w, ρ, k, ?_⟩
  rw [← FinG.fin]
  refine FinS.bind f fun x ρ1 v w1 H1 _ ev1 k1 r1 f1 => ?_
  exact f1 _ _ H1 evo_mov (Fx.set hi) (k1.set (d := x.1) (m := x.2) r1)
def isComp : Ex → Bool
  | .compR _ _ _ _ _ => true
  | .compL _ _ _ _ _ _ => true
  | _ => false
theorem noswap {T : Tx} {N : List Str} {sc : Scope} {c : Ex} {e : Expr} {o : Option Expr} {ln : Nat} {env : Env} (h : chkE T N sc c e = true) (hc : isComp c = false) : swapsWith e o ln env = pure false := by
  cases e with
  | ListComp x g s p => cases c <;> first | (cases hc; done) | (cases h; done) | (simp [chkE, chkV] at h)
  | SetComp x g s p => cases c <;> first | (cases h; done) | (simp [chkE, chkV] at h)
  | DictComp x y g s p => cases c <;> first | (cases h; done) | (simp [chkE, chkV] at h)
  | _ => rfl
theorem noswapT {e : Expr} {es : List Expr} {k : Nat} {p : Pos} {ln : Nat} {env : Env} : swapsWithSole [.Tuple es k p] e ln env = pure false := by
  cases e <;> rfl
theorem nostores {e : Expr} {es : List Expr} {k : Nat} {p : Pos} {env : Env} (h : ∀ xs k q, e ≠ .Tuple xs k q) : swappedStores [.Tuple es k p] e env = pure none := by
  cases e with
  | Tuple xs k q => exact absurd rfl (h xs k q)
  | _ => rfl
theorem PS.setV {i : Nat} {x : Str} {p p2 : Pos} (g : GoodS P Γ C T lev X sc W) (hi : fx i = false) (hn : X.N[i]? = some x) (hl : VS.loc sc x = true) (hc : isComp c = false) (h : chkE T X.N sc c e = true) : PS X (.Assign [.Name x p] e p2) (tS P Γ C W fx (.set i c)) := by
  obtain ⟨l1, l2⟩ := g.lo x hl
  exact PS.imp (ps_set g.g.nd hn l1 (snd c |>.run g.g h 0).1 (noswap h hc) l2) fun D σ H q => set_read hi q
/-- a comprehension is stored by its own rule: the name a local one, on the comprehension's line -/
def swOk (x : Str) (p : Pos) (e : Expr) : Bool := match e with
  | .ListComp _ _ scope pos => (p.line == pos.line) && !(scope.names.any fun (n, k) => n == x && (k == .local || k == .cell))
  | _ => false
theorem PS.setCV {i : Nat} {x : Str} {p p2 : Pos} (g : GoodS P Γ C T lev X sc W) (hi : fx i = false) (hn : X.N[i]? = some x) (hl : sc.names.lookup x = some .local) (hc : isComp c = true) (hs : swOk x p e = true) (h : chkE T X.N sc c e = true) : PS X (.Assign [.Name x p] e p2) (tS P Γ C W fx (.set i c)) := by
  have hyl : X.env.scope.names.lookup x = some .local := by rw [g.g.sc]; exact hl
  have fin : ∀ {y t z : Expr} {cs : List Expr} {scope : Scope} {pos : Pos}, LcP X y t z cs scope (tE P Γ C W 0 c) → swOk x p (.ListComp y [⟨t, z, cs, 0⟩] scope pos) = true → PS X (.Assign [.Name x p] (.ListComp y [⟨t, z, cs, 0⟩] scope pos) p2) (tS P Γ C W fx (.set i c)) := fun {y t z cs scope pos} lc hs => by
    obtain ⟨own, wi, gg, tt, tel, h1, h2, h3, h4, h5, h6, h7⟩ := lc.ex
    have hs : ((p.line == pos.line) && !(scope.names.any fun (n, k) => n == x && (k == .local || k == .cell))) = true := hs
    rw [Bool.and_eq_true, Bool.not_eq_true'] at hs
    exact ⟨fun pins s σ H D I hw => (ps_setLc g.g.calm g.g.nd hn hyl (sw_true I.ok.kind hyl hs.1 hs.2) h1 h2 h3 h4 h5 h6).run pins s σ H D I (h7 σ H _ (set_read hi hw))⟩
  cases c with
  | compR own tg as ifs elt =>
    have h2 := h
    unfold chkE at h2
    split at h2
    · exact fin (lcR (sndL as) (sndL ifs) (snd elt) g.g h 0) hs
    · cases h2
  | compL own tup tg a ifs elt =>
    have h2 := h
    unfold chkE at h2
    split at h2
    · exact fin (lcL (snd a) (sndL ifs) (snd elt) g.g h 0) hs
    · cases h2
  | _ => cases hc
theorem PS.setTV {is : List Nat} {ts : List Expr} {kk : Nat} {p p2 : Pos} (g : GoodS P Γ C T lev X sc W) (hi : ∀ i ∈ is, fx i = false) (ht : chkTs X.N sc is ts = true) (h : chkE T X.N sc c e = true) (nt : ∀ xs k q, e ≠ .Tuple xs k q) :
    PS X (.Assign [.Tuple ts kk p] e p2) (tS P Γ C W fx (.setT is c)) := by
  refine PS.imp (ps_asg (snd c |>.run g.g h 0).1 (PG.tgV (tup := true) (is := is) g.g.nd g.g.calm g.lo ht) noswapT (nostores nt) rfl) fun D σ H ⟨w, ρ, k, f⟩ => ?_
  have f : FinS C W fx ((ev P Γ c ρ).fl fun x ρ => match bindOne true is x.1 ρ with
    | some ρ => .nx ρ
    | none => .bad) w H σ D := f
  refine ⟨w, ρ, k, ?_⟩
  rw [← FinG.fin]
  refine FinS.bind f fun x ρ1 v w1 H1 _ ev1 k1 r1 f1 => ?_
  cases hb : bindOne true is x.1 ρ1 with
  | none => rw [hb] at f1; exact f1.elim
  | some ρ2 =>
    rw [hb] at f1
    have r2 : Rep C (frz (geT 0) w1) H1 x.1 .fz (.s 0) v := Rep.frzIn (by simp [geT]) r1
    refine bindOne_ok hb (k1.frzT fun i => rfl) r2 fun vs k2 => ?_
    exact f1 _ _ H1 (Evo.frz fun j hj => by omega) (Fx.setV hi) k2
/-! ### augmented assignments -/
def ipO : Bop → Operator
  | .add => .Add
  | _ => .Sub
def isAS : Bop → Bool
  | .add => true
  | .sub => true
  | _ => false
def ipF : Bop → Int → Int → Int
  | .add => fun i j => i + j
  | _ => fun i j => i - j
theorem ip_as {op : Bop} (h : isAS op = true) : PIp X (ipO op) (ipI (ipF op)) := by
  cases op with
  | add => exact ip_add
  | sub => exact ip_sub
  | _ => cases h
theorem binD_as {op : Bop} {i j : Int} (h : isAS op = true) : binD op (.int i) (.int j) = some (.int (ipF op i j), .dp) := by
  cases op <;> first | rfl | (cases h)
theorem PS.augV {i : Nat} {x : Str} {op : Bop} {p p2 : Pos} (g : GoodS P Γ C T lev X sc W) (ho : isAS op = true) (hi : fx i = false) (hn : X.N[i]? = some x) (hl : VS.loc sc x = true) (h : chkE T X.N sc c e = true) : PS X (.AugAssign (.Name x p) (ipO op) e p2) (tS P Γ C W fx (.aug i op c)) := by
  obtain ⟨l1, l2⟩ := g.lo x hl
  refine PS.imp (ps_aug g.g.nd hn l1 (snd c |>.run g.g h 0).1 (ip_as ho) l2) fun D σ H ⟨w, ρ, k, f⟩ => ?_
  have f : FinS C W fx (match slot ρ i with
    | some (.int a, _) => (ev P Γ c ρ).fl fun y ρ => match y.1 with
      | .int b => match binD op (.int a) (.int b) with
        | some z => .nx (ρ.set i (some z))
        | none => .bad
      | _ => .bad
    | _ => .bad) w H σ D := f
  cases hs : slot ρ i with
  | none => rw [hs] at f; exact f.elim
  | some dm =>
    obtain ⟨d, mm⟩ := dm
    rw [hs] at f
    cases d with
    | int z =>
      obtain ⟨v, hv, hr⟩ := k.rep i _ _ (slot_some hs)
      refine ⟨v, hv, w, ρ, k, ?_⟩
      rw [← FinG.fin]
      refine FinS.bind f fun y ρ1 u w1 H1 _ ev1 k1 r1 f1 => ?_
      obtain ⟨yd, ym⟩ := y
      cases yd with
      | int z2 =>
        dsimp only at f1
        rw [binD_as ho] at f1
        refine ⟨z, z2, hr, r1, ?_⟩
        exact f1 _ _ H1 .refl (Fx.set hi) (k1.setI (d := .int (ipF op z z2)) (m := .dp) (v := .int (ipF op z z2)) rfl)
      | _ => exact f1.elim
    | _ => exact f.elim
/-! ### appends -/
theorem lst_slot {i : Nat} {xs : List VS.D} {mm : Md} (k : Ok C w H ρ σ) (h : slot ρ i = some (.lst xs, mm)) (hm : mm = .rt ∨ mm = .dp) : ∃ q vs, σ[i]? = some (some (.ref q)) ∧ w q = .rt (.s i) ∧ H q = some (.lst vs) ∧ RepL C w H xs mm.child (.s i) vs := by
  obtain ⟨v, hv, q, vs, e, hw, hH, hr⟩ := k.rep i _ _ (slot_some h)
  subst e
  refine ⟨q, vs, hv, by rw [hw]; rcases hm with z | z <;> subst z <;> rfl, ?_, hr⟩
  exact hH.elim id fun ⟨z, _⟩ => by rcases hm with y | y <;> rw [y] at z <;> cases z
/-- a list at a slot takes a value that is under way -/
theorem putL_run {i : Nat} {fl : List VS.D → Option (List VS.D)} {g : List V → V → List V} {x : VS.D × Md} {v : V} (k : Ok C w H ρ σ) (rx : Rep C w H x.1 x.2 (.t 0) v)
    (hg : ∀ {w : Wh} {H : Hp} {mm : Md} {o : Id} {xs ys : List VS.D} {vs : List V} {v : V}, fl xs = some ys → RepL C w H xs mm o vs → Rep C w H x.1 mm o v → RepL C w H ys mm o (g vs v))
    (f : FinS C W fx (putL i ρ fl x) w H σ D) : ∃ q xs vs ys, σ[i]? = some (some (.ref q)) ∧ H q = some (.lst vs) ∧ vs.length = xs.length ∧ fl xs = some ys ∧ D.nx σ (upd H q (.lst (g vs v))) := by
  unfold putL at f
  split at f
  · rename_i xs mm hs
    split at f
    · rename_i hm
      split at f
      · rename_i ys hy
        obtain ⟨q, vs, hv, hw, hH, hr⟩ := lst_slot k hs hm
        have hl : i < ρ.length := (List.getElem?_eq_some_iff.mp (slot_some hs)).1
        refine ⟨q, xs, vs, ys, hv, hH, hr.length, hy, ?_⟩
        have hH0 : H q ≠ none := by rw [hH]; simp
        by_cases hd : mm = .dp ∧ x.2 = .dp
        · rw [if_pos hd] at f
          obtain ⟨rfl, hx⟩ := hd
          rw [hx] at rx
          let p : Id → Bool := fun k => decide (k = .t 0)
          have hps : ∀ j, p (.s j) = false := fun j => by simp [p]
          have hw2 : VS.sub p (.s i) w q = .rt (.s i) := (sub_out (m := .rt) (hps i) hw).trans hw
          have r2 : RepL C (VS.sub p (.s i) w) H ys .sb (.s i) (g vs v) := hg hy (hr.subOut (hps i)) (rx.subIn (by simp [p]))
          refine f σ _ _ ((Evo.sub fun j hj => by omega).trans (Evo.put (.inl hw2) hH0)) .refl ((k.subT hps).put (slot_some hs) hw2 hH0 hv (by simp) ?_)
          exact ⟨q, _, rfl, hw2, .inl upd_same, r2.putKid hw2 (.inr rfl)⟩
        · rw [if_neg hd] at f
          have k1 := k.flat (slot_some hs)
          have hw1 : frzS (isS i) w q = .rt (.s i) := frzS_rt hw
          have hw2 : frz (geT 0) (frzS (isS i) w) q = .rt (.s i) := (frz_out (p := geT 0) (m := .rt) rfl hw1).trans hw1
          have hr1 : RepL C (frz (geT 0) (frzS (isS i) w)) H xs .fz (.s i) vs := by
            have q1 := (RepL.frzSIn (p := isS i) (by simp [isS]) hr).frzOut (p := geT 0) rfl
            have : mm.child.flat = .fz := by rcases hm with z | z <;> subst z <;> rfl
            rw [this] at q1
            exact q1
          have rx2 : Rep C (frz (geT 0) (frzS (isS i) w)) H x.1 .fz (.s i) v := Rep.frzIn (by simp [geT]) (rx.frzSOut (p := isS i) rfl)
          have k2 : Ok C (frz (geT 0) (frzS (isS i) w)) H (ρ.set i (some (.lst xs, mm.flat))) σ := k1.frzT fun i => rfl
          have f2 := f σ (frz (geT 0) (frzS (isS i) w)) (upd H q (.lst (g vs v))) (((Evo.frzS fun j hj => by omega).trans (Evo.frz fun j hj => by omega)).trans (Evo.put (.inl hw2) hH0)) .refl
          refine f2 ?_
          have := k2.put (i := i) (q := q) (o := .lst (g vs v)) (d := .lst xs) (d' := .lst ys) (m := mm.flat) (m' := .rt) (v := .ref q) (by rw [List.getElem?_set_self hl]) hw2 hH0 hv (by simp) ⟨q, _, rfl, hw2, .inl upd_same, (hg hy hr1 rx2).putKid hw2 (.inl rfl)⟩
          rw [List.set_set] at this
          exact this
      · exact f.elim
    · exact f.elim
  · exact f.elim
end
end VS

set_option Elab.async false
set_option linter.all false
set_option maxRecDepth 100000
/-! VR: statements (2). -/
namespace VS
open PySem PySem.Spec PyProof.Rows L2
section
variable {P : Pg} {Γ : Ga} {C : Nat → Addr} {T : Tx} {lev : Nat} {X : Cx} {sc : Scope} {W : WX} {n : Nat} {a b c k : Ex} {l r m e : Expr} {pos : Pos} {ρ ρ' : En} {w w' : Wh} {H H' : Hp} {σ σ' : L2.St} {cs : List Ex} {es : List Expr} {fx : Nat → Bool} {E : Ends}
theorem FinS.opt {α : Type} {x : Option α} {f : α → En → Fl} (h : FinS C W fx ((R.opt x ρ).fl f) w H σ E) : ∃ z, x = some z ∧ FinS C W fx (f z ρ) w H σ E := by
  cases x with
  | none => exact h.elim
  | some z => exact ⟨z, rfl, h⟩
theorem isLst_ok {i : Nat} {u : Unit} (h : isLst (slot ρ i) = some u) (kk : Ok C w H ρ σ) : ∃ v p vs, σ[i]? = some (some v) ∧ v = .ref p ∧ Rd H p (.lst vs) := by
  unfold isLst at h
  split at h
  · rename_i xs m q
    obtain ⟨v, hv, hr⟩ := kk.rep i _ _ (slot_some q)
    obtain ⟨p, vs, e, hR, _⟩ := Rep.vw _ _ _ hr
    exact ⟨v, p, vs, hv, e, hR⟩
  · cases h
theorem PS.appV {i : Nat} {o : Expr} {ap cp p : Pos} (g : GoodS P Γ C T lev X sc W) (hv : chkV X.N sc i o = true) (hl : (ap.endLine == cp.line) = true) (h : chkE T X.N sc c e = true) :
    PS X (.Expr (.Call (.Attribute o "append" ap) [e] [] cp) p) (tS P Γ C W fx (.app i c)) := by
  have hc1 : chkL T X.N sc [c] [e] = true := by simp [chkL, h]
  have hb : attributeBase o "append" X.env (eval o X.env) = eval o X.env := by obtain ⟨x, q, rfl, _⟩ := chkV_ok hv; rfl
  refine PS.imp (ps_expr (pe_bm PySem.F.plainAttrs_list PySem.F.slot_list_append PySem.F.type_list_append mt_append (g.g.var hv) (pa_cons (snd c |>.run g.g h 0).1 pa_nil (starEach_ok h)) hb (by rw [stars_few hc1]; rfl) hl (starEach_ok h) rfl) rfl) fun E σ H ⟨w, ρ, k, f⟩ => ?_
  have f : FinS C W fx ((R.opt (isLst (slot ρ i)) ρ).fl fun _ ρ => (ev P Γ c ρ).fl fun x ρ => putL i ρ (fun xs => if xs.length < sizeLine then some (xs ++ [x.1]) else none) x) w H σ E := f
  obtain ⟨u, e1, f1⟩ := FinS.opt f
  obtain ⟨v, q, vs, hv1, hv2, hR⟩ := isLst_ok e1 k
  refine ⟨v, hv1, by subst hv2; exact .inl ⟨rfl, vs, .inl hR⟩, w, ρ, k, ?_⟩
  rw [← FinG.fin]
  refine FinS.bind f1 fun x ρ1 y w1 H1 _ ev1 k1 r1 f2 => ?_
  obtain ⟨q2, xs, us, ys, h1, h2, h3, h4, h5⟩ := putL_run (g := fun vs v => vs ++ [v]) k1 r1 (fun {w H mm o xs ys vs v} h4 hr ry => by
    split at h4
    · cases h4; exact hr.append (RepL.one ry)
    · cases h4) f2
  rw [hv1] at h1
  cases h1
  refine ⟨q2, us, y, rfl, rfl, h2, ?_, h5⟩
  split at h4
  · rw [h3]; assumption
  · cases h4
theorem plainAsg {N : List Str} {o : Expr} {env : Env} (h : chkE T N sc c e = true) : ∀ v, assign (.Subscript o e pos) env v = (do
      let ov ← holding [v] (eval o env)
      let iv ← holding [v, ov] (eval e env)
      standAt pos
      holding [v, ov, iv] (setItem ov iv v)
      release [v, ov, iv] []) := by
  cases e with
  | Slice x k q p => cases c <;> first | (cases h; done) | (simp [chkE, chkV] at h)
  | _ => intro v; rfl
theorem plainAug {N : List Str} (h : chkE T N sc c e = true) : ∀ ov iv new, augStore e ov iv new = (do holding [new, ov, iv] (setItem ov iv new); release [new, ov, iv] []; pure .next) := by
  cases e with
  | Slice x k q p => cases c <;> first | (cases h; done) | (simp [chkE, chkV] at h)
  | _ => intros; rfl
theorem noswapS {o i : Expr} {p : Pos} {ln : Nat} {env : Env} : swapsWithSole [.Subscript o i p] e ln env = pure false := by
  cases e <;> rfl
theorem setIx_hg {z : Int} {x : VS.D} {w : Wh} {H : Hp} {mm : Md} {o : Id} {xs ys : List VS.D} {vs : List V} {v : V} (h : ((ixN xs.length z).map fun j => xs.set j x) = some ys) (hr : RepL C w H xs mm o vs) (ry : Rep C w H x mm o v) : RepL C w H ys mm o (match ixN vs.length z with
    | some j => vs.set j v
    | none => vs) := by
  cases q : ixN xs.length z with
  | none => rw [q] at h; cases h
  | some j =>
    rw [q] at h
    cases h
    rw [hr.length, q]
    exact hr.set j ry
theorem PS.setIxV {i : Nat} {o x : Expr} {tp p : Pos} (g : GoodS P Γ C T lev X sc W) (hv : chkV X.N sc i o = true) (hk : chkE T X.N sc k x = true) (h : chkE T X.N sc c e = true) : PS X (.Assign [.Subscript o x tp] e p) (tS P Γ C W fx (.setIx i k c)) := by
  refine PS.imp (ps_asg (snd c |>.run g.g h 0).1 (pg_sub (g.g.var hv) (Snd1.lk (snd k) g.g hk 1) set_list (plainAsg hk)) noswapS rfl rfl) fun E σ H ⟨w, ρ, kk, f⟩ => ?_
  have f : FinS C W fx ((ev P Γ c ρ).fl fun x ρ => (R.opt (isLst (slot ρ i)) ρ).fl fun _ ρ => (VS.look k (ev P Γ k ρ) ρ).fl fun y ρ => match y with
    | .int z => putL i ρ (fun xs => (ixN xs.length z).map fun j => xs.set j x.1) x
    | _ => .bad) w H σ E := f
  refine ⟨w, ρ, kk, ?_⟩
  rw [← FinG.fin]
  refine FinS.bind f fun u ρ1 y w1 H1 _ ev1 k1 r1 f1 => ?_
  obtain ⟨_, e1, f2⟩ := FinS.opt f1
  obtain ⟨v, q, vs, hv1, hv2, hR⟩ := isLst_ok e1 k1
  refine ⟨v, hv1, w1, ρ1, k1, ?_⟩
  refine FinS.bind (n := 1) f2 fun z ρ2 zv w2 H2 _ ev2 k2 l2 f3 => ?_
  cases z with
  | int z =>
    obtain ⟨q2, xs, us, ys, h1, h2, h3, h4, h5⟩ := putL_run (g := fun vs v => match ixN vs.length z with
      | some j => vs.set j v
      | none => vs) k2 (r1.evo Nat.one_pos ev2) (fun {w H mm o xs ys vs v} h4 hr ry => setIx_hg h4 hr ry) f3
    rw [hv1] at h1
    cases h1
    cases hj : ixN xs.length z with
    | none => rw [hj] at h4; cases h4
    | some j =>
      rw [h3, hj] at h5
      exact ⟨q2, us, z, j, rfl, l2.1, h2, by rw [h3]; exact hj, h5⟩
  | _ => exact f3.elim
theorem get_list : PGet X (rIxL X.K) := by
  intro pins s σ H x y v u Q I rx ry h
  obtain ⟨p, xs, i, z, rfl, rfl, hq, he, q⟩ := h
  cases rx
  obtain ⟨t, rfl⟩ := ry
  obtain ⟨its, r, pl, hz⟩ := I.list hq
  obtain ⟨j, h1, h2, h3, h4, h5⟩ := atI_get he
  obtain ⟨w, ew, rw'⟩ := r.get h2
  have hl := r.length
  have hn := line63
  have fin : EP X pins σ Q w s := ⟨z, H, I, rw', q⟩
  by_cases h0 : 0 ≤ i
  · have hj : i.toNat = j := by
      rw [seqIndex_of h0 h5] at h1
      exact Option.some.inj h1
    exact wpAny_getItem_list pl.isList h0 (by omega) (by rw [hj]; simpa using ew) fin
  · have hj : (i + (its.toArray.size : Int)).toNat = j := by
      rw [seqIndex_neg (by omega) h4] at h1
      rw [List.size_toArray, ← hl]
      exact Option.some.inj h1
    exact wpAny_getItem_list_neg pl.isList (by omega) (by rw [List.size_toArray] <;> omega) (by omega) (by rw [hj]; simpa using ew) fin
theorem PS.augIxV {i : Nat} {o x : Expr} {op : Bop} {tp p : Pos} (g : GoodS P Γ C T lev X sc W) (ho : isAS op = true) (hv : chkV X.N sc i o = true) (hk : chkE T X.N sc k x = true) (h : chkE T X.N sc c e = true) : PS X (.AugAssign (.Subscript o x tp) (ipO op) e p) (tS P Γ C W fx (.augIx i k op c)) := by
  refine PS.imp (ps_augS (g.g.var hv) (Snd1.lk (snd k) g.g hk 0) get_list (snd c |>.run g.g h 0).1 (ip_as ho) set_list (plainAug hk)) fun E σ H ⟨w, ρ, kk, f⟩ => ?_
  have f : FinS C W fx ((R.opt (isLst (slot ρ i)) ρ).fl fun _ ρ => (VS.look k (ev P Γ k ρ) ρ).fl fun y ρ => match y, slot ρ i with
    | .int z, some (.lst xs, _) => match atI xs z with
      | some (.int a) => (ev P Γ c ρ).fl fun u ρ => match u.1 with
        | .int b => match binD op (.int a) (.int b) with
          | some r => putL i ρ (fun xs => (ixN xs.length z).map fun j => xs.set j r.1) r
          | none => .bad
        | _ => .bad
      | _ => .bad
    | _, _ => .bad) w H σ E := f
  obtain ⟨_, e1, f1⟩ := FinS.opt f
  obtain ⟨v, q, vs, hv1, hv2, hR⟩ := isLst_ok e1 kk
  refine ⟨v, hv1, w, ρ, kk, ?_⟩
  refine FinS.bind (n := 0) f1 fun z ρ1 zv w1 H1 _ ev1 k1 l1 f2 => ?_
  cases z with
  | int z =>
    cases hs : slot ρ1 i with
    | none => rw [hs] at f2; exact f2.elim
    | some dm =>
      obtain ⟨d, mm⟩ := dm
      rw [hs] at f2
      cases d with
      | lst xs =>
        dsimp only at f2
        cases ha : atI xs z with
        | none => rw [ha] at f2; exact f2.elim
        | some d =>
          rw [ha] at f2
          cases d with
          | int a =>
            dsimp only at f2
            obtain ⟨v', hv', hr⟩ := k1.rep i _ _ (slot_some hs)
            rw [hv1] at hv'
            cases hv'
            obtain ⟨p, us, e2, _, hH, hr2⟩ := hr
            obtain ⟨y, hy, ry⟩ := hr2.atI ha
            have hRd : Rd H1 p (.lst us) := by rcases hH with z | ⟨_, ob, z⟩; exact .inl z; exact .inr ⟨ob, z⟩
            rw [show y = _ from ry] at hy
            refine ⟨p, us, z, .int a, e2, l1.1, .inl hRd, hy, w1, ρ1, k1, ?_⟩
            rw [← FinG.fin]
            refine FinS.bind f2 fun u ρ2 uv w2 H2 _ ev2 k2 r2 f3 => ?_
            obtain ⟨ud, um⟩ := u
            cases ud with
            | int b =>
              dsimp only at f3
              rw [binD_as ho] at f3
              refine ⟨a, b, rfl, r2, ?_⟩
              obtain ⟨q2, xs2, us2, ys, h1, h2, h3, h4, h5⟩ := putL_run (g := fun vs v => match ixN vs.length z with
                | some j => vs.set j v
                | none => vs) (x := (.int (ipF op a b), .dp)) (v := .int (ipF op a b)) k2 rfl (fun {w H mm o xs ys vs v} h4 hr ry => setIx_hg h4 hr ry) f3
              rw [hv1] at h1
              cases h1
              cases hj : ixN xs2.length z with
              | none => rw [hj] at h4; cases h4
              | some j =>
                rw [h3, hj] at h5
                exact ⟨q2, us2, z, j, rfl, l1.1, h2, by rw [h3]; exact hj, h5⟩
            | _ => exact f3.elim
          | _ => exact f2.elim
      | _ => exact f2.elim
  | _ => exact f2.elim
theorem PS.exprV {p : Pos} (g : GoodS P Γ C T lev X sc W) (hc : isComp c = false) (h : chkE T X.N sc c e = true) : PS X (.Expr e p) (tS P Γ C W fx (.expr c)) := by
  refine PS.imp (ps_expr (snd c |>.run g.g h 0).1 (noswap h hc)) fun E σ H ⟨w, ρ, k, f⟩ => ?_
  have f : FinS C W fx ((ev P Γ c ρ).fl fun _ ρ => .nx ρ) w H σ E := f
  refine ⟨w, ρ, k, ?_⟩
  rw [← FinG.fin]
  exact FinS.bind f fun x ρ1 v w1 H1 _ ev1 k1 r1 f1 => FinS.go k1 f1
theorem PS.retV {p : Pos} (g : GoodS P Γ C T lev X sc W) (h : chkE T X.N sc c e = true) : PS X (.Return (some e) p) (tS P Γ C W fx (.ret c)) := by
  refine PS.imp (ps_ret (snd c |>.run g.g h 0).1) fun E σ H ⟨w, ρ, k, f⟩ => ?_
  have f : FinS C W fx ((ev P Γ c ρ).fl fun x ρ => .ret x ρ) w H σ E := f
  refine ⟨w, ρ, k, ?_⟩
  rw [← FinG.fin]
  exact FinS.bind f fun x ρ1 v w1 H1 _ ev1 k1 r1 f1 => f1 v σ w1 H1 .refl .refl k1 r1
theorem PS.retNV {p : Pos} : PS X (.Return none p) (tS P Γ C W fx .retN) := PS.imp ps_retN fun E σ H ⟨w, ρ, k, f⟩ => f .non σ w H .refl .refl k rfl
theorem PS.brkV {p : Pos} : PS X (.Break p) (tS P Γ C W fx .brk) := PS.imp ps_break fun E σ H ⟨w, ρ, k, f⟩ => f σ w H .refl .refl k
theorem PS.cntV {p : Pos} : PS X (.Continue p) (tS P Γ C W fx .cnt) := PS.imp ps_continue fun E σ H ⟨w, ρ, k, f⟩ => f σ w H .refl .refl k
theorem PS.passV {p : Pos} : PS X (.Pass p) (tS P Γ C W fx .pass) := PS.imp ps_pass fun E σ H ⟨w, ρ, k, f⟩ => f σ w H .refl .refl k
theorem flB (r : R VS.D) (A B : En → Fl) : (r.fl fun x ρ => match x with
    | .bl true => A ρ
    | .bl false => B ρ
    | _ => .bad) = (r.bind bm).fl fun k ρ => if k then A ρ else B ρ := by
  cases r with
  | ok x ρ => cases x with
    | bl b => cases b <;> rfl
    | _ => rfl
  | _ => rfl
theorem PS.ifV {sa sb : List Sm} {la lb : List Stmt} {p : Pos} (ht : PT X e (tT P Γ C W 0 c)) (ha : PSs X la (tSs P Γ C W fx sa)) (hb : PSs X lb (tSs P Γ C W fx sb)) : PS X (.If e la lb p) (tS P Γ C W fx (.ife c sa sb)) := by
  refine PS.imp (ps_if ht ha hb) fun E σ H ⟨w, ρ, k, f⟩ => ?_
  have e1 : exS P Γ (.ife c sa sb) ρ = (evB P Γ c ρ).fl fun k ρ => if k then exSs P Γ sa ρ else exSs P Γ sb ρ := flB _ _ _
  rw [e1] at f
  refine ⟨w, ρ, k, FinS.bind f fun kb ρ1 kb' w1 H1 _ ev1 k1 l1 f1 => ?_⟩
  have l1 : kb = kb' := l1
  subst l1
  cases kb with
  | true => exact ⟨w1, ρ1, k1, f1⟩
  | false => exact ⟨w1, ρ1, k1, f1⟩
/-! ### for -/
def forS (P : Pg) (Γ : Ga) (tup : Bool) (is : List Nat) (body : List Sm) : VS.D → En → Fl := fun d ρ => match bindOne tup is d ρ with
  | some ρ => exSs P Γ body ρ
  | none => .bad
def ForI (P : Pg) (Γ : Ga) (C : Nat → Addr) (W : WX) (fx : Nat → Bool) (tup : Bool) (is : List Nat) (body : List Sm) (ds : List VS.D) (w1 : Wh) (H1 : Hp) (E : Ends) (i : Nat) (σ : L2.St) (H : Hp) : Prop :=
  ∃ w ρ, Evo 0 w1 H1 w H ∧ Ok C w H ρ σ ∧ FinS C W fx (forGo (forS P Γ tup is body) (ds.drop i) ρ) w H σ E
theorem for_step {tup : Bool} {is : List Nat} {body : List Sm} {ds : List VS.D} {w1 : Wh} {H1 : Hp} {i : Nat} {d : VS.D} {v : V} {K : PySem.W.Frag} (hfx : ∀ i ∈ is, fx i = false) (hd : ds[i]? = some d) (rx : ∀ w H, Evo 0 w1 H1 w H → Rep C w H d .fz (.s 0) v)
    (h : ForI P Γ C W fx tup is body ds w1 H1 E i σ H) : gTg K tup is v σ H fun σ2 H2 => tSs P Γ C W fx body { E with nx := ForI P Γ C W fx tup is body ds w1 H1 E (i + 1), ct := ForI P Γ C W fx tup is body ds w1 H1 E (i + 1), bk := E.nx } σ2 H2 := by
  obtain ⟨w, ρ, ev, k, f⟩ := h
  have hi : i < ds.length := (List.getElem?_eq_some_iff.mp hd).1
  have hdr : ds.drop i = d :: ds.drop (i + 1) := by
    rw [List.drop_eq_getElem_cons hi]
    congr 1
    rw [List.getElem?_eq_getElem hi] at hd
    exact Option.some.inj hd
  rw [hdr] at f
  have f : FinS C W fx (match forS P Γ tup is body d ρ with
    | .nx ρ => forGo (forS P Γ tup is body) (ds.drop (i + 1)) ρ
    | .cnt ρ => forGo (forS P Γ tup is body) (ds.drop (i + 1)) ρ
    | .brk ρ => .nx ρ
    | o => o) w H σ E := f
  cases hb : bindOne tup is d ρ with
  | none =>
    have : forS P Γ tup is body d ρ = .bad := by unfold forS; rw [hb]
    rw [this] at f
    exact f.elim
  | some ρ1 =>
    have hF : forS P Γ tup is body d ρ = exSs P Γ body ρ1 := by unfold forS; rw [hb]
    rw [hF] at f
    refine bindOne_ok hb k (rx w H ev) fun vs k1 => ⟨w, ρ1, k1, ?_⟩
    have f := FinS.evo .refl (Fx.setV (vs := vs) hfx) f
    cases hr : exSs P Γ body ρ1 with
    | nx ρ2 => rw [hr] at f; exact fun σ' w' H' ev' fs k' => ⟨w', ρ2, ev.trans ev', k', FinS.evo ev' fs f⟩
    | cnt ρ2 => rw [hr] at f; exact fun σ' w' H' ev' fs k' => ⟨w', ρ2, ev.trans ev', k', FinS.evo ev' fs f⟩
    | brk ρ2 => rw [hr] at f; exact f
    | ret x ρ2 => rw [hr] at f; exact f
    | exc c fs ρ2 => rw [hr] at f; exact f
    | bad => rw [hr] at f; exact f
theorem for_end {tup : Bool} {is : List Nat} {body : List Sm} {ds : List VS.D} {w1 : Wh} {H1 : Hp} {i : Nat} (hi : ds.length ≤ i) (h : ForI P Γ C W fx tup is body ds w1 H1 E i σ H) : E.nx σ H := by
  obtain ⟨w, ρ, ev, k, f⟩ := h
  rw [List.drop_of_length_le hi] at f
  exact FinS.go k f
/-! ### fields of own objects -/
theorem RepF.subOut {p : Id → Bool} {i k : Id} {m : Md} {ds : List (Str × VS.D)} {vs : List (Str × V)} (hp : p k = false) (r : RepF C w H ds m k vs) : RepF C (VS.sub p i w) H ds m k vs := by
  have key : ∀ m : Md, Keeps w (VS.sub p i w) H H m m k k := fun m => .id (fun a o e q => ⟨sub_out hp q, e⟩) fun a o e q => ⟨sub_fz q, e⟩
  exact RepF.map ds m m vs (key m) (key _) r
theorem RepF.frzOut {p : Id → Bool} {k : Id} {m : Md} {ds : List (Str × VS.D)} {vs : List (Str × V)} (hp : p k = false) (r : RepF C w H ds m k vs) : RepF C (VS.frz p w) H ds m k vs := by
  have key : ∀ m : Md, Keeps w (VS.frz p w) H H m m k k := fun m => .id (fun a o e q => ⟨frz_out hp q, e⟩) fun a o e q => ⟨frz_fz q, e⟩
  exact RepF.map ds m m vs (key m) (key _) r
theorem RepF.frzSIn {p : Id → Bool} {k : Id} {m : Md} {ds : List (Str × VS.D)} {vs : List (Str × V)} (hp : p k = true) (r : RepF C w H ds m k vs) : RepF C (VS.frzS p w) H ds m.flat k vs := by
  have key : ∀ m : Md, Keeps w (VS.frzS p w) H H m m.flat k k := fun m => ⟨fun h => by subst h; rfl, fun a o e q => ⟨by cases m; exact frzS_fz q; exact frzS_rt q; exact frzS_rt q; exact frzS_in hp q, e⟩, fun a o e q => ⟨frzS_fz q, e⟩⟩
  have e : ∀ m : Md, m.child.flat = m.flat.child := fun m => by cases m <;> rfl
  exact RepF.map ds m m.flat vs (key m) (by rw [← e]; exact key _) r
theorem RepF.length {m : Md} {o : Id} : ∀ {ds : List (Str × VS.D)} {vs : List (Str × V)}, RepF C w H ds m o vs → vs.length = ds.length
  | [], _, h => by rw [show _ = [] from h]; rfl
  | (f, d) :: r, _, ⟨v, vr, e, _, h2⟩ => by subst e; rw [List.length_cons, List.length_cons, RepF.length h2]
theorem RepF.putD {m : Md} {o : Id} {f : Str} {d : VS.D} {v : V} (h : Rep C w H d m o v) : ∀ {ds : List (Str × VS.D)} {vs : List (Str × V)}, RepF C w H ds m o vs → RepF C w H (putFD f d ds) m o (putF f v vs)
  | [], _, q => by rw [show _ = [] from q]; exact ⟨v, [], rfl, h, rfl⟩
  | (g, x) :: r, _, ⟨u, ur, e, h1, h2⟩ => by
    subst e
    unfold putFD putF
    by_cases z : g = f
    · rw [if_pos z, if_pos z]; exact ⟨v, ur, rfl, h, h2⟩
    · rw [if_neg z, if_neg z]; exact ⟨u, _, rfl, h1, RepF.putD h h2⟩
theorem noswapA {e o : Expr} {f : Str} {p : Pos} {ln : Nat} {env : Env} : swapsWith e (some (.Attribute o f p)) ln env = pure false := by
  cases e <;> rfl
theorem PS.setFV {i : Nat} {f : Str} {o : Expr} {tp p : Pos} (g : GoodS P Γ C T lev X sc W) (hv : chkV X.N sc i o = true) (h : chkE T X.N sc c e = true) : PS X (.Assign [.Attribute o f tp] e p) (tS P Γ C W fx (.setF i f c)) := by
  refine PS.imp (ps_fld (g.g.var hv) (snd c |>.run g.g h 0).1 noswapA) fun E σ H ⟨w, ρ, k, q⟩ => ?_
  have q : FinS C W fx ((ev P Γ c ρ).fl fun x ρ => match slot ρ i with
    | some (.ins c fs, m) => if (m = .rt ∨ m = .dp) ∧ fs.length < 999 ∧ P.fo c f = true then .nx (ρ.set i (some (.ins c (putFD f x.1 fs), if m = .dp ∧ x.2 = .dp then .dp else .rt))) else .bad
    | _ => .bad) w H σ E := q
  refine ⟨w, ρ, k, ?_⟩
  rw [← FinG.fin]
  refine FinS.bind q fun x ρ1 v w1 H1 _ ev1 k1 rx q1 => ?_
  split at q1
  · rename_i cc fs mm hs
    split at q1
    · rename_i hm
      obtain ⟨hm, hl, hfo⟩ := hm
      obtain ⟨u, hu, a, dx, vs, e1, hw, hH, hr⟩ := k1.rep i _ _ (slot_some hs)
      subst e1
      have hw' : w1 a = .rt (.s i) := by rw [hw]; rcases hm with z | z <;> subst z <;> rfl
      have hH0 : H1 a ≠ none := by rw [hH]; simp
      have hil : i < ρ1.length := (List.getElem?_eq_some_iff.mp (slot_some hs)).1
      obtain ⟨hc1, hc2⟩ := g.g.fld cc f hfo
      refine ⟨.ref a, hu, a, C cc, dx, vs, rfl, hH, hc1, hc2, by rw [hr.length]; omega, ?_⟩
      by_cases hd : mm = .dp ∧ x.2 = .dp
      · rw [if_pos hd] at q1
        obtain ⟨rfl, hx⟩ := hd
        rw [hx] at rx
        let p : Id → Bool := fun k => decide (k = .t 0)
        have hps : ∀ j, p (.s j) = false := fun j => by simp [p]
        have hw2 : VS.sub p (.s i) w1 a = .rt (.s i) := (sub_out (m := .rt) (hps i) hw').trans hw'
        have r2 : RepF C (VS.sub p (.s i) w1) H1 (putFD f x.1 fs) .sb (.s i) (putF f v vs) := RepF.putD (rx.subIn (by simp [p])) (RepF.subOut (hps i) hr)
        refine q1 σ _ _ ((Evo.sub fun j hj => by omega).trans (Evo.put (.inl hw2) hH0)) .refl ((k1.subT hps).put (slot_some hs) hw2 hH0 hu (by simp) ?_)
        exact ⟨a, dx, _, rfl, hw2, upd_same, r2.putKid hw2 (.inr rfl)⟩
      · rw [if_neg hd] at q1
        have k2 := k1.flat (slot_some hs)
        have hw1 : frzS (isS i) w1 a = .rt (.s i) := frzS_rt hw'
        have hw2 : frz (geT 0) (frzS (isS i) w1) a = .rt (.s i) := (frz_out (p := geT 0) (m := .rt) rfl hw1).trans hw1
        have hr1 : RepF C (frz (geT 0) (frzS (isS i) w1)) H1 fs .fz (.s i) vs := by
          have q1 := RepF.frzOut (p := geT 0) rfl (RepF.frzSIn (p := isS i) (by simp [isS]) hr)
          have : mm.child.flat = .fz := by rcases hm with z | z <;> subst z <;> rfl
          rw [this] at q1
          exact q1
        have rx2 : Rep C (frz (geT 0) (frzS (isS i) w1)) H1 x.1 .fz (.s i) v := Rep.frzIn (by simp [geT]) (rx.frzSOut (p := isS i) rfl)
        have k3 : Ok C (frz (geT 0) (frzS (isS i) w1)) H1 (ρ1.set i (some (.ins cc fs, mm.flat))) σ := k2.frzT fun i => rfl
        have f2 := q1 σ (frz (geT 0) (frzS (isS i) w1)) (upd H1 a (.ins (C cc) dx (putF f v vs))) (((Evo.frzS fun j hj => by omega).trans (Evo.frz fun j hj => by omega)).trans (Evo.put (.inl hw2) hH0)) .refl
        refine f2 ?_
        have := k3.put (i := i) (q := a) (o := .ins (C cc) dx (putF f v vs)) (d := .ins cc fs) (d' := .ins cc (putFD f x.1 fs)) (m := mm.flat) (m' := .rt) (v := .ref a) (by rw [List.getElem?_set_self hil]) hw2 hH0 hu (by simp) ⟨a, dx, _, rfl, hw2, upd_same, (RepF.putD rx2 hr1).putKid hw2 (.inl rfl)⟩
        rw [List.set_set] at this
        exact this
    · exact q1.elim
  · exact q1.elim
/-! ### dicts -/
theorem RepK.length {m : Md} {o : Id} : ∀ {ds : List (Key × VS.D)} {vs : List (Key × V)}, RepK C w H ds m o vs → vs.length = ds.length
  | [], _, h => by rw [show _ = [] from h]; rfl
  | (f, d) :: r, _, ⟨v, vr, e, _, h2⟩ => by subst e; rw [List.length_cons, List.length_cons, RepK.length h2]
theorem RepT.length {m : Md} {o : Id} : ∀ {ds : List (List Key × VS.D)} {vs : List (List Key × V)}, RepT C w H ds m o vs → vs.length = ds.length
  | [], _, h => by rw [show _ = [] from h]; rfl
  | (f, d) :: r, _, ⟨v, vr, e, _, h2⟩ => by subst e; rw [List.length_cons, List.length_cons, RepT.length h2]
theorem RepK.any {m : Md} {o : Id} {k : Key} : ∀ {ds : List (Key × VS.D)} {vs : List (Key × V)}, RepK C w H ds m o vs → (vs.any fun kv => decide (kv.1 = k)) = ds.any fun kv => decide (kv.1 = k)
  | [], _, h => by rw [show _ = [] from h]; rfl
  | (f, d) :: r, _, ⟨v, vr, e, _, h2⟩ => by subst e; rw [List.any_cons, List.any_cons, RepK.any h2]
theorem RepT.any {m : Md} {o : Id} {k : List Key} : ∀ {ds : List (List Key × VS.D)} {vs : List (List Key × V)}, RepT C w H ds m o vs → (vs.any fun kv => decide (kv.1 = k)) = ds.any fun kv => decide (kv.1 = k)
  | [], _, h => by rw [show _ = [] from h]; rfl
  | (f, d) :: r, _, ⟨v, vr, e, _, h2⟩ => by subst e; rw [List.any_cons, List.any_cons, RepT.any h2]
theorem RepK.mapPut {m : Md} {o : Id} {k : Key} {d : VS.D} {v : V} (h : Rep C w H d m o v) : ∀ {ds : List (Key × VS.D)} {vs : List (Key × V)}, RepK C w H ds m o vs → RepK C w H (ds.map fun kv => if kv.1 = k then (kv.1, d) else kv) m o (vs.map fun kv => if kv.1 = k then (kv.1, v) else kv)
  | [], _, q => by rw [show _ = [] from q]; rfl
  | (g, x) :: r, _, ⟨u, ur, e, h1, h2⟩ => by
    subst e
    rw [List.map_cons, List.map_cons]
    by_cases z : g = k
    · dsimp only; rw [if_pos z, if_pos z]; exact ⟨v, _, rfl, h, RepK.mapPut h h2⟩
    · dsimp only; rw [if_neg z, if_neg z]; exact ⟨u, _, rfl, h1, RepK.mapPut h h2⟩
theorem RepT.mapPut {m : Md} {o : Id} {k : List Key} {d : VS.D} {v : V} (h : Rep C w H d m o v) : ∀ {ds : List (List Key × VS.D)} {vs : List (List Key × V)}, RepT C w H ds m o vs → RepT C w H (ds.map fun kv => if kv.1 = k then (kv.1, d) else kv) m o (vs.map fun kv => if kv.1 = k then (kv.1, v) else kv)
  | [], _, q => by rw [show _ = [] from q]; rfl
  | (g, x) :: r, _, ⟨u, ur, e, h1, h2⟩ => by
    subst e
    rw [List.map_cons, List.map_cons]
    by_cases z : g = k
    · dsimp only; rw [if_pos z, if_pos z]; exact ⟨v, _, rfl, h, RepT.mapPut h h2⟩
    · dsimp only; rw [if_neg z, if_neg z]; exact ⟨u, _, rfl, h1, RepT.mapPut h h2⟩
theorem RepK.snoc {m : Md} {o : Id} {k : Key} {d : VS.D} {v : V} (h : Rep C w H d m o v) : ∀ {ds : List (Key × VS.D)} {vs : List (Key × V)}, RepK C w H ds m o vs → RepK C w H (ds ++ [(k, d)]) m o (vs ++ [(k, v)])
  | [], _, q => by rw [show _ = [] from q]; exact ⟨v, [], rfl, h, rfl⟩
  | (g, x) :: r, _, ⟨u, ur, e, h1, h2⟩ => by subst e; exact ⟨u, _, rfl, h1, RepK.snoc h h2⟩
theorem RepT.snoc {m : Md} {o : Id} {k : List Key} {d : VS.D} {v : V} (h : Rep C w H d m o v) : ∀ {ds : List (List Key × VS.D)} {vs : List (List Key × V)}, RepT C w H ds m o vs → RepT C w H (ds ++ [(k, d)]) m o (vs ++ [(k, v)])
  | [], _, q => by rw [show _ = [] from q]; exact ⟨v, [], rfl, h, rfl⟩
  | (g, x) :: r, _, ⟨u, ur, e, h1, h2⟩ => by subst e; exact ⟨u, _, rfl, h1, RepT.snoc h h2⟩
theorem RepK.put {m : Md} {o : Id} {k : Key} {d : VS.D} {v : V} {ds : List (Key × VS.D)} {vs : List (Key × V)} (h : Rep C w H d m o v) (q : RepK C w H ds m o vs) : RepK C w H (putKD ds k d) m o (putK vs k v) := by
  unfold putKD putK
  rw [RepK.any q]
  split
  · exact RepK.mapPut h q
  · exact RepK.snoc h q
theorem RepT.put {m : Md} {o : Id} {k : List Key} {d : VS.D} {v : V} {ds : List (List Key × VS.D)} {vs : List (List Key × V)} (h : Rep C w H d m o v) (q : RepT C w H ds m o vs) : RepT C w H (putKD ds k d) m o (putK vs k v) := by
  unfold putKD putK
  rw [RepT.any q]
  split
  · exact RepT.mapPut h q
  · exact RepT.snoc h q
theorem isDic_ok {i : Nat} {u : Unit} (h : isDic (slot ρ i) = some u) (kk : Ok C w H ρ σ) : ∃ v, σ[i]? = some (some v) := by
  unfold isDic at h
  split at h
  · rename_i q
    obtain ⟨v, hv, _⟩ := kk.rep i _ _ (slot_some q)
    exact ⟨v, hv⟩
  · rename_i q
    obtain ⟨v, hv, _⟩ := kk.rep i _ _ (slot_some q)
    exact ⟨v, hv⟩
  · cases h
theorem RepK.subOut {p : Id → Bool} {i k : Id} {m : Md} {ds : List (Key × VS.D)} {vs : List (Key × V)} (hp : p k = false) (r : RepK C w H ds m k vs) : RepK C (VS.sub p i w) H ds m k vs := by
  have key : ∀ m : Md, Keeps w (VS.sub p i w) H H m m k k := fun m => .id (fun a o e q => ⟨sub_out hp q, e⟩) fun a o e q => ⟨sub_fz q, e⟩
  exact RepK.map ds m m vs (key m) (key _) r
theorem RepK.frzOut {p : Id → Bool} {k : Id} {m : Md} {ds : List (Key × VS.D)} {vs : List (Key × V)} (hp : p k = false) (r : RepK C w H ds m k vs) : RepK C (VS.frz p w) H ds m k vs := by
  have key : ∀ m : Md, Keeps w (VS.frz p w) H H m m k k := fun m => .id (fun a o e q => ⟨frz_out hp q, e⟩) fun a o e q => ⟨frz_fz q, e⟩
  exact RepK.map ds m m vs (key m) (key _) r
theorem RepK.frzSIn {p : Id → Bool} {k : Id} {m : Md} {ds : List (Key × VS.D)} {vs : List (Key × V)} (hp : p k = true) (r : RepK C w H ds m k vs) : RepK C (VS.frzS p w) H ds m.flat k vs := by
  have key : ∀ m : Md, Keeps w (VS.frzS p w) H H m m.flat k k := fun m => ⟨fun h => by subst h; rfl, fun a o e q => ⟨by cases m; exact frzS_fz q; exact frzS_rt q; exact frzS_rt q; exact frzS_in hp q, e⟩, fun a o e q => ⟨frzS_fz q, e⟩⟩
  have e : ∀ m : Md, m.child.flat = m.flat.child := fun m => by cases m <;> rfl
  exact RepK.map ds m m.flat vs (key m) (by rw [← e]; exact key _) r
theorem RepK.putKid {q : Addr} {o : HO} {i : Id} {m : Md} {ds : List (Key × VS.D)} {vs : List (Key × V)} (hw : w q = .rt i) (hm : m = .fz ∨ m = .sb) (r : RepK C w H ds m i vs) : RepK C w (upd H q o) ds m i vs := by
  have key : ∀ m : Md, m = .fz ∨ m = .sb → Keeps w w H (upd H q o) m m i i := fun m hm =>
    .id (fun a o' e h => ⟨rfl, by
      rw [upd_ne (fun z => by rw [z, hw] at h; rcases hm with e | e <;> subst e <;> cases h)]; exact e⟩) fun a o' e h => ⟨h, by rw [upd_ne (fun z => by rw [z, hw] at h; cases h)]; exact e⟩
  exact RepK.map ds m m vs (key m hm) (key _ (by rcases hm with e | e <;> subst e; exact .inl rfl; exact .inr rfl)) r
/-- a dict at a slot takes a value that is under way -/
theorem dicK_run {i : Nat} {kvs : List (Key × VS.D)} {mm : Md} {kk : Key} {x : VS.D × Md} {v : V} (k : Ok C w H ρ σ) (rx : Rep C w H x.1 x.2 (.t 0) v) (hs : slot ρ i = some (.dK kvs, mm)) (hm : mm = .rt ∨ mm = .dp)
    (f : FinS C W fx (.nx (ρ.set i (some (.dK (putKD kvs kk x.1), if mm = .dp ∧ x.2 = .dp then .dp else .rt)))) w H σ E) : ∃ a vs, σ[i]? = some (some (.ref a)) ∧ H a = some (.dK vs) ∧ vs.length = kvs.length ∧ E.nx σ (upd H a (.dK (putK vs kk v))) := by
  obtain ⟨u, hu, a, vs, e1, hw, hH, hr⟩ := k.rep i _ _ (slot_some hs)
  subst e1
  have hw' : w a = .rt (.s i) := by rw [hw]; rcases hm with z | z <;> subst z <;> rfl
  have hH0 : H a ≠ none := by rw [hH]; simp
  have hil : i < ρ.length := (List.getElem?_eq_some_iff.mp (slot_some hs)).1
  refine ⟨a, vs, hu, hH, hr.length, ?_⟩
  by_cases hd : mm = .dp ∧ x.2 = .dp
  · rw [if_pos hd] at f
    obtain ⟨rfl, hx⟩ := hd
    rw [hx] at rx
    let p : Id → Bool := fun k => decide (k = .t 0)
    have hps : ∀ j, p (.s j) = false := fun j => by simp [p]
    have hw2 : VS.sub p (.s i) w a = .rt (.s i) := (sub_out (m := .rt) (hps i) hw').trans hw'
    have r2 : RepK C (VS.sub p (.s i) w) H (putKD kvs kk x.1) .sb (.s i) (putK vs kk v) := RepK.put (rx.subIn (by simp [p])) (RepK.subOut (hps i) hr)
    refine f σ _ _ ((Evo.sub fun j hj => by omega).trans (Evo.put (.inl hw2) hH0)) .refl ((k.subT hps).put (slot_some hs) hw2 hH0 hu (by simp) ?_)
    exact ⟨a, _, rfl, hw2, upd_same, r2.putKid hw2 (.inr rfl)⟩
  · rw [if_neg hd] at f
    have k2 := k.flat (slot_some hs)
    have hw1 : frzS (isS i) w a = .rt (.s i) := frzS_rt hw'
    have hw2 : frz (geT 0) (frzS (isS i) w) a = .rt (.s i) := (frz_out (p := geT 0) (m := .rt) rfl hw1).trans hw1
    have hr1 : RepK C (frz (geT 0) (frzS (isS i) w)) H kvs .fz (.s i) vs := by
      have q1 := RepK.frzOut (p := geT 0) rfl (RepK.frzSIn (p := isS i) (by simp [isS]) hr)
      have : mm.child.flat = .fz := by rcases hm with z | z <;> subst z <;> rfl
      rw [this] at q1
      exact q1
    have rx2 : Rep C (frz (geT 0) (frzS (isS i) w)) H x.1 .fz (.s i) v := Rep.frzIn (by simp [geT]) (rx.frzSOut (p := isS i) rfl)
    have k3 : Ok C (frz (geT 0) (frzS (isS i) w)) H (ρ.set i (some (.dK kvs, mm.flat))) σ := k2.frzT fun i => rfl
    have f2 := f σ (frz (geT 0) (frzS (isS i) w)) (upd H a (.dK (putK vs kk v))) (((Evo.frzS fun j hj => by omega).trans (Evo.frz fun j hj => by omega)).trans (Evo.put (.inl hw2) hH0)) .refl
    refine f2 ?_
    have := k3.put (i := i) (q := a) (o := .dK (putK vs kk v)) (d := .dK kvs) (d' := .dK (putKD kvs kk x.1)) (m := mm.flat) (m' := .rt) (v := .ref a) (by rw [List.getElem?_set_self hil]) hw2 hH0 hu (by simp) ⟨a, _, rfl, hw2, upd_same, (RepK.put rx2 hr1).putKid hw2 (.inl rfl)⟩
    rw [List.set_set] at this
    exact this
theorem RepT.subOut {p : Id → Bool} {i k : Id} {m : Md} {ds : List (List Key × VS.D)} {vs : List (List Key × V)} (hp : p k = false) (r : RepT C w H ds m k vs) : RepT C (VS.sub p i w) H ds m k vs := by
  have key : ∀ m : Md, Keeps w (VS.sub p i w) H H m m k k := fun m => .id (fun a o e q => ⟨sub_out hp q, e⟩) fun a o e q => ⟨sub_fz q, e⟩
  exact RepT.map ds m m vs (key m) (key _) r
theorem RepT.frzOut {p : Id → Bool} {k : Id} {m : Md} {ds : List (List Key × VS.D)} {vs : List (List Key × V)} (hp : p k = false) (r : RepT C w H ds m k vs) : RepT C (VS.frz p w) H ds m k vs := by
  have key : ∀ m : Md, Keeps w (VS.frz p w) H H m m k k := fun m => .id (fun a o e q => ⟨frz_out hp q, e⟩) fun a o e q => ⟨frz_fz q, e⟩
  exact RepT.map ds m m vs (key m) (key _) r
theorem RepT.frzSIn {p : Id → Bool} {k : Id} {m : Md} {ds : List (List Key × VS.D)} {vs : List (List Key × V)} (hp : p k = true) (r : RepT C w H ds m k vs) : RepT C (VS.frzS p w) H ds m.flat k vs := by
  have key : ∀ m : Md, Keeps w (VS.frzS p w) H H m m.flat k k := fun m => ⟨fun h => by subst h; rfl, fun a o e q => ⟨by cases m; exact frzS_fz q; exact frzS_rt q; exact frzS_rt q; exact frzS_in hp q, e⟩, fun a o e q => ⟨frzS_fz q, e⟩⟩
  have e : ∀ m : Md, m.child.flat = m.flat.child := fun m => by cases m <;> rfl
  exact RepT.map ds m m.flat vs (key m) (by rw [← e]; exact key _) r
theorem RepT.putKid {q : Addr} {o : HO} {i : Id} {m : Md} {ds : List (List Key × VS.D)} {vs : List (List Key × V)} (hw : w q = .rt i) (hm : m = .fz ∨ m = .sb) (r : RepT C w H ds m i vs) : RepT C w (upd H q o) ds m i vs := by
  have key : ∀ m : Md, m = .fz ∨ m = .sb → Keeps w w H (upd H q o) m m i i := fun m hm =>
    .id (fun a o' e h => ⟨rfl, by
      rw [upd_ne (fun z => by rw [z, hw] at h; rcases hm with e | e <;> subst e <;> cases h)]; exact e⟩) fun a o' e h => ⟨h, by rw [upd_ne (fun z => by rw [z, hw] at h; cases h)]; exact e⟩
  exact RepT.map ds m m vs (key m hm) (key _ (by rcases hm with e | e <;> subst e; exact .inl rfl; exact .inr rfl)) r
/-- a dict at a slot takes a value that is under way -/
theorem dicT_run {i : Nat} {kvs : List (List Key × VS.D)} {mm : Md} {kk : List Key} {x : VS.D × Md} {v : V} (k : Ok C w H ρ σ) (rx : Rep C w H x.1 x.2 (.t 0) v) (hs : slot ρ i = some (.dT kvs, mm)) (hm : mm = .rt ∨ mm = .dp)
    (f : FinS C W fx (.nx (ρ.set i (some (.dT (putKD kvs kk x.1), if mm = .dp ∧ x.2 = .dp then .dp else .rt)))) w H σ E) : ∃ a vs, σ[i]? = some (some (.ref a)) ∧ H a = some (.dT vs) ∧ vs.length = kvs.length ∧ E.nx σ (upd H a (.dT (putK vs kk v))) := by
  obtain ⟨u, hu, a, vs, e1, hw, hH, hr⟩ := k.rep i _ _ (slot_some hs)
  subst e1
  have hw' : w a = .rt (.s i) := by rw [hw]; rcases hm with z | z <;> subst z <;> rfl
  have hH0 : H a ≠ none := by rw [hH]; simp
  have hil : i < ρ.length := (List.getElem?_eq_some_iff.mp (slot_some hs)).1
  refine ⟨a, vs, hu, hH, hr.length, ?_⟩
  by_cases hd : mm = .dp ∧ x.2 = .dp
  · rw [if_pos hd] at f
    obtain ⟨rfl, hx⟩ := hd
    rw [hx] at rx
    let p : Id → Bool := fun k => decide (k = .t 0)
    have hps : ∀ j, p (.s j) = false := fun j => by simp [p]
    have hw2 : VS.sub p (.s i) w a = .rt (.s i) := (sub_out (m := .rt) (hps i) hw').trans hw'
    have r2 : RepT C (VS.sub p (.s i) w) H (putKD kvs kk x.1) .sb (.s i) (putK vs kk v) := RepT.put (rx.subIn (by simp [p])) (RepT.subOut (hps i) hr)
    refine f σ _ _ ((Evo.sub fun j hj => by omega).trans (Evo.put (.inl hw2) hH0)) .refl ((k.subT hps).put (slot_some hs) hw2 hH0 hu (by simp) ?_)
    exact ⟨a, _, rfl, hw2, upd_same, r2.putKid hw2 (.inr rfl)⟩
  · rw [if_neg hd] at f
    have k2 := k.flat (slot_some hs)
    have hw1 : frzS (isS i) w a = .rt (.s i) := frzS_rt hw'
    have hw2 : frz (geT 0) (frzS (isS i) w) a = .rt (.s i) := (frz_out (p := geT 0) (m := .rt) rfl hw1).trans hw1
    have hr1 : RepT C (frz (geT 0) (frzS (isS i) w)) H kvs .fz (.s i) vs := by
      have q1 := RepT.frzOut (p := geT 0) rfl (RepT.frzSIn (p := isS i) (by simp [isS]) hr)
      have : mm.child.flat = .fz := by rcases hm with z | z <;> subst z <;> rfl
      rw [this] at q1
      exact q1
    have rx2 : Rep C (frz (geT 0) (frzS (isS i) w)) H x.1 .fz (.s i) v := Rep.frzIn (by simp [geT]) (rx.frzSOut (p := isS i) rfl)
    have k3 : Ok C (frz (geT 0) (frzS (isS i) w)) H (ρ.set i (some (.dT kvs, mm.flat))) σ := k2.frzT fun i => rfl
    have f2 := f σ (frz (geT 0) (frzS (isS i) w)) (upd H a (.dT (putK vs kk v))) (((Evo.frzS fun j hj => by omega).trans (Evo.frz fun j hj => by omega)).trans (Evo.put (.inl hw2) hH0)) .refl
    refine f2 ?_
    have := k3.put (i := i) (q := a) (o := .dT (putK vs kk v)) (d := .dT kvs) (d' := .dT (putKD kvs kk x.1)) (m := mm.flat) (m' := .rt) (v := .ref a) (by rw [List.getElem?_set_self hil]) hw2 hH0 hu (by simp) ⟨a, _, rfl, hw2, upd_same, (RepT.put rx2 hr1).putKid hw2 (.inl rfl)⟩
    rw [List.set_set] at this
    exact this
theorem PS.setKV {i : Nat} {o x : Expr} {tp p : Pos} (hu : X.A.units + 1 < cLine) (g : GoodS P Γ C T lev X sc W) (hv : chkV X.N sc i o = true) (hk : chkE T X.N sc k x = true) (h : chkE T X.N sc c e = true) : PS X (.Assign [.Subscript o x tp] e p) (tS P Γ C W fx (.setK i k c)) := by
  refine PS.imp (ps_asg (snd c |>.run g.g h 0).1 (pg_sub (g.g.var hv) (Snd1.lk (snd k) g.g hk 1) (set_dict hu) (plainAsg hk)) noswapS rfl rfl) fun E σ H ⟨w, ρ, kk, f⟩ => ?_
  have f : FinS C W fx ((ev P Γ c ρ).fl fun x ρ => (R.opt (isDic (slot ρ i)) ρ).fl fun _ ρ => (VS.look k (ev P Γ k ρ) ρ).fl fun y ρ => putC i y x ρ) w H σ E := f
  refine ⟨w, ρ, kk, ?_⟩
  rw [← FinG.fin]
  refine FinS.bind f fun u ρ1 y w1 H1 _ ev1 k1 r1 f1 => ?_
  obtain ⟨_, e1, f2⟩ := FinS.opt f1
  obtain ⟨v, hv1⟩ := isDic_ok e1 k1
  refine ⟨v, hv1, w1, ρ1, k1, ?_⟩
  refine FinS.bind (n := 1) f2 fun z ρ2 zv w2 H2 _ ev2 k2 l2 f3 => ?_
  have rx := r1.evo Nat.one_pos ev2
  unfold putC at f3
  split at f3
  · rename_i kvs mm hs
    split at f3
    · rename_i hm
      split at f3
      · rename_i kk hk
        split at f3
        · rename_i hl
          obtain ⟨a, vs, h1, h2, h3, h4⟩ := dicK_run k2 rx hs hm f3
          rw [hv1] at h1
          cases h1
          have ek := keyOf_V hk l2.1
          subst ek
          exact ⟨a, _, rfl, DPut.k h2 (by rw [h3]; exact hl), h4⟩
        · exact f3.elim
      · exact f3.elim
    · exact f3.elim
  · rename_i kvs mm hs
    split at f3
    · rename_i hm
      split at f3
      · rename_i ks
        split at f3
        · rename_i kk hk
          split at f3
          · rename_i hl
            obtain ⟨a, vs, h1, h2, h3, h4⟩ := dicT_run k2 rx hs hm f3
            rw [hv1] at h1
            cases h1
            obtain ⟨b, us, e3, hB, hq⟩ := l2.1
            have ek := keysOf_V hk hq
            subst ek
            subst e3
            exact ⟨a, _, rfl, DPut.t h2 hB (by rw [h3]; exact hl), h4⟩
          · exact f3.elim
        · exact f3.elim
      · exact f3.elim
    · exact f3.elim
  · exact f3.elim
end
end VS

set_option Elab.async false
set_option linter.all false
set_option maxRecDepth 100000
/-! VT: for loops; the check of statements. -/
namespace VS
open PySem PySem.Spec PyProof.Rows L2
theorem PI.or {X : Cx} {tg iter : Expr} {a b : TI} (h1 : PI X tg iter a) (h2 : PI X tg iter b) : PI X tg iter (fun σ H K => a σ H K ∨ b σ H K) := ⟨fun pins s σ H K I q => q.elim (h1.run pins s σ H K I) (h2.run pins s σ H K I)⟩
section
variable {P : Pg} {Γ : Ga} {C : Nat → Addr} {T : Tx} {lev : Nat} {X : Cx} {sc : Scope} {W : WX} {n : Nat} {a b c k : Ex} {l r m e : Expr} {pos : Pos} {ρ ρ' : En} {w w' : Wh} {H H' : Hp} {σ σ' : L2.St} {cs : List Ex} {es : List Expr} {fx : Nat → Bool} {E : Ends}
theorem lst_keep {i : Id} {ds : List VS.D} {v : V} (q : Rep C w H (.lst ds) .fz i v) : ∃ p vs, v = .ref p ∧ ∀ w' H', Evo n w H w' H' → Rd H' p (.lst vs) ∧ RepL C w' H' ds .fz (.s 0) vs := by
  obtain ⟨p, vs, e, hw, hH, hr⟩ := q
  refine ⟨p, vs, e, fun w' H' ev => ⟨?_, hr.fzEvo ev⟩⟩
  rcases hH with z | ⟨_, o, z⟩
  · exact .inl (ev.kH p _ z (.inr (.inl hw)))
  · exact .inr ⟨o, ev.kH p _ z (.inr (.inl hw))⟩
theorem tup_keep {i : Id} {ds : List VS.D} {v : V} (q : Rep C w H (.tup ds) .fz i v) : ∃ p vs, v = .ref p ∧ ∀ w' H', Evo n w H w' H' → H' p = some (.tup vs) ∧ RepL C w' H' ds .fz (.s 0) vs := by
  obtain ⟨p, vs, e, hw, hH, hr⟩ := q
  exact ⟨p, vs, e, fun w' H' ev => ⟨ev.kH p _ hH (.inr (.inl hw)), RepL.fzEvo (i' := .s 0) ev hr⟩⟩
theorem PS.forLV {tup : Bool} {is : List Nat} {body : List Sm} {tg : Expr} {sb : List Stmt} {p : Pos} (g : GoodS P Γ C T lev X sc W) (hfx : ∀ i ∈ is, fx i = false) (h : chkE T X.N sc c e = true) (ht : chkTg X.N sc tup is tg = true) (hb : PSs X sb (tSs P Γ C W fx body)) :
    PS X (.For tg e sb [] p) (tS P Γ C W fx (.forL tup is c body)) := by
  have pe := (snd c |>.run g.g h 0).1
  refine PS.imp (ps_for g.own g.g.calm (VS.PI.or (pi_list pe) (pi_tup pe)) (PG.tgV (tup := tup) (is := is) g.g.nd g.g.calm g.lo ht) hb (notSet h)) fun E σ H ⟨w, ρ, k, f⟩ => ?_
  have f : FinS C W fx ((ev P Γ c ρ).fl fun x ρ => match x.1 with
    | .lst ds => forGo (forS P Γ tup is body) ds ρ
    | .tup ds => forGo (forS P Γ tup is body) ds ρ
    | _ => .bad) w H σ E := f
  have right : (∃ x ρ1 ds, ev P Γ c ρ = .ok x ρ1 ∧ x.1 = .tup ds) ∨ ¬ (∃ x ρ1 ds, ev P Γ c ρ = .ok x ρ1 ∧ x.1 = .tup ds) := Classical.em _
  rcases right with right | left
  · refine .inr ⟨w, ρ, k, ?_⟩
    rw [← FinG.fin]
    refine FinS.bind f fun x ρ1 v w1 H1 hx ev1 k1 r1 f1 => ?_
    obtain ⟨x', ρ1', ds, hx', hd⟩ := right
    rw [hx] at hx'
    cases hx'
    rw [hd] at f1
    have r2 : Rep C (frz (geT 0) w1) H1 (.tup ds) .fz (.s 0) v := by rw [← hd]; exact Rep.frzIn (by simp [geT]) r1
    obtain ⟨q, vs, e1, keep⟩ := tup_keep (n := 0) r2
    have k2 : Ok C (frz (geT 0) w1) H1 ρ1 σ := k1.frzT fun i => rfl
    have f2 := FinS.evo (Evo.frz (p := geT 0) fun j hj => by omega) .refl f1
    have hlen : vs.length = ds.length := (keep _ _ .refl).2.length
    refine ⟨q, e1, ⟨vs, .inl (.inl (keep _ _ .refl).1)⟩, ?_⟩
    refine for_tup (xs := vs) (ForI P Γ C W fx tup is body ds (frz (geT 0) w1) H1 E) ⟨_, ρ1, .refl, k2, f2⟩ (fun i σ' H' _ hI => ?_) (fun i x σ' H' hx hI => ?_) fun σ' H' hI => ?_
    · obtain ⟨w', ρ', ev', _⟩ := hI
      exact .inl (.inl (keep _ _ ev').1)
    · obtain ⟨dd, hd, _⟩ := (keep _ _ .refl).2.getV hx
      exact for_step hfx hd (fun w' H' ev' => by
        obtain ⟨u, hu, ru⟩ := (keep w' H' ev').2.get hd
        rw [hx] at hu
        cases hu
        exact ru) hI
    · exact for_end (by rw [hlen]; exact Nat.le_refl _) hI
  · refine .inl ⟨w, ρ, k, ?_⟩
    rw [← FinG.fin]
    refine FinS.bind f fun x ρ1 v w1 H1 hx ev1 k1 r1 f1 => ?_
    obtain ⟨xd, xm⟩ := x
    cases xd with
    | tup ds => exact absurd ⟨_, _, ds, hx, rfl⟩ left
    | lst ds =>
      dsimp only at f1
      have r2 : Rep C (frz (geT 0) w1) H1 (.lst ds) .fz (.s 0) v := Rep.frzIn (by simp [geT]) r1
      obtain ⟨q, vs, e1, keep⟩ := lst_keep (n := 0) r2
      have k2 : Ok C (frz (geT 0) w1) H1 ρ1 σ := k1.frzT fun i => rfl
      have f2 := FinS.evo (Evo.frz (p := geT 0) fun j hj => by omega) .refl f1
      have hlen : vs.length = ds.length := (keep _ _ .refl).2.length
      refine ⟨q, e1, ⟨vs, .inl (keep _ _ .refl).1⟩, ?_⟩
      refine for_list (xs := vs) (ForI P Γ C W fx tup is body ds (frz (geT 0) w1) H1 E) ⟨_, ρ1, .refl, k2, f2⟩ (fun i σ' H' _ hI => ?_) (fun i x σ' H' hx hI => ?_) fun σ' H' hI => ?_
      · obtain ⟨w', ρ', ev', _⟩ := hI
        exact .inl (keep _ _ ev').1
      · obtain ⟨dd, hd, _⟩ := (keep _ _ .refl).2.getV hx
        exact for_step hfx hd (fun w' H' ev' => by
          obtain ⟨u, hu, ru⟩ := (keep w' H' ev').2.get hd
          rw [hx] at hu
          cases hu
          exact ru) hI
      · exact for_end (by rw [hlen]; exact Nat.le_refl _) hI
    | _ => exact f1.elim
theorem chkL_len {N : List Str} : ∀ {cs : List Ex} {es : List Expr}, chkL T N sc cs es = true → es.length = cs.length
  | [], [], _ => rfl
  | [], _ :: _, h => by simp [chkL] at h
  | _ :: _, [], h => by simp [chkL] at h
  | c :: cs, e :: es, h => by simp only [chkL, Bool.and_eq_true] at h; rw [List.length_cons, List.length_cons, chkL_len h.2]
theorem len1 {α : Type} {l : List α} (h : l.length = 1) : ∃ x, l = [x] := by
  cases l with
  | nil => cases h
  | cons x r => cases r with
    | nil => exact ⟨x, rfl⟩
    | cons _ _ => simp at h
theorem len2 {α : Type} {l : List α} (h : l.length = 2) : ∃ x y, l = [x, y] := by
  cases l with
  | nil => cases h
  | cons x r =>
    obtain ⟨y, rfl⟩ := len1 (l := r) (by simpa using h)
    exact ⟨x, y, rfl⟩
theorem PS.forRV {i : Nat} {as : List Ex} {xs : List Expr} {body : List Sm} {tg : Expr} {sb : List Stmt} {p rp pp : Pos} (g : GoodS P Γ C T lev X sc W) (hfx : fx i = false) (hg : VS.glb sc "range" = true) (h4 : as.length = 1 ∨ as.length = 2) (h : chkL T X.N sc as xs = true) (ht : chkT1 X.N sc i tg = true) (hb : PSs X sb (tSs P Γ C W fx body)) :
    PS X (.For tg (.Call (.Name "range" rp) xs [] pp) sb [] p) (tS P Γ C W fx (.forR i as body)) := by
  have pa := (sndL as).ar 0 g.g h
  have main : ∀ {wi : TI}, PI X tg (.Call (.Name "range" rp) xs [] pp) wi → (∀ σ H K0, (∃ w ρ, Ok C w H ρ σ ∧ FinG C W 0 ((evL P Γ as ρ).bind fun xs ρ => R.opt (rngD (xs.map (·.1))) ρ) (effL P as) w H σ (fun (p : Int × Nat) (J : It) w H => J = Itr p.1 p.2) K0) → wi σ H K0) →
      PS X (.For tg (.Call (.Name "range" rp) xs [] pp) sb [] p) (tS P Γ C W fx (.forR i as body)) := fun {wi} hpi hwi => by
    refine PS.imp (ps_for (g := gTg X.K false [i]) g.own g.g.calm hpi (pg_one g.g.nd g.lo ht) hb (fun _ => rfl)) fun E σ H ⟨w, ρ, k, f⟩ => ?_
    have f : FinS C W fx ((evL P Γ as ρ).fl fun ys ρ => match rngD (ys.map (·.1)) with
      | some (lo, n) => forGo (forS P Γ false [i] body) ((List.range n).map fun j => .int (lo + (j : Nat))) ρ
      | none => .bad) w H σ E := f
    have e : ((evL P Γ as ρ).fl fun ys ρ => match rngD (ys.map (·.1)) with
      | some (lo, n) => forGo (forS P Γ false [i] body) ((List.range n).map fun j => .int (lo + (j : Nat))) ρ
      | none => .bad) = ((evL P Γ as ρ).bind fun xs ρ => R.opt (rngD (xs.map (·.1))) ρ).fl fun p ρ => forGo (forS P Γ false [i] body) ((List.range p.2).map fun j => .int (p.1 + (j : Nat))) ρ := by
      cases evL P Γ as ρ with
      | ok ys ρ1 =>
        show (match rngD (ys.map (·.1)) with
          | some (lo, n) => _
          | none => _) = (R.opt (rngD (ys.map (·.1))) ρ1).fl _
        cases rngD (ys.map (·.1)) with
        | none => rfl
        | some p => rfl
      | exc _ _ _ => rfl
      | bad => rfl
    rw [e] at f
    refine hwi σ H _ ⟨w, ρ, k, FinS.bind f fun p ρ1 J w1 H1 _ ev1 k1 l1 f1 => ?_⟩
    have l1 : J = Itr p.1 p.2 := l1
    subst l1
    refine for_range (ForI P Γ C W fx false [i] body ((List.range p.2).map fun j => .int (p.1 + (j : Nat))) w1 H1 E) ⟨_, ρ1, .refl, k1, f1⟩ (fun j σ' H' hj hI => ?_) fun σ' H' hI => ?_
    · exact for_step (K := X.K) (fun i' hi => by rw [List.mem_singleton.mp hi]; exact hfx) (int_drop hj) (fun w' H' ev' => rfl) hI
    · exact for_end (by simp) hI
  have hl := chkL_len h
  rcases h4 with h4 | h4
  · obtain ⟨x1, rfl⟩ := len1 (hl.trans h4)
    obtain ⟨c1, rfl⟩ := len1 h4
    have hc1 : chkE T X.N sc c1 x1 = true := by simpa [chkL] using h
    refine main (pi_range1 (g.g.glb hg) (g.g.blt _ (by decide)) pa (starEach_ok hc1)) fun σ H K0 ⟨w, ρ, k, f⟩ => ?_
    refine ⟨w, ρ, k, FinG.bind f (fun z => z) fun xs ρ1 vs w1 H1 hx ev1 k1 r1 s1 f1 => ?_⟩
    have hl := evL_len hx
    obtain ⟨p, e, f2⟩ := FinG.opt0 f1
    rcases rng_read (X := X) (W := W) r1 e with ⟨j, _, e1, e2, e3, e4, e5⟩ | ⟨i, j, q, _⟩
    · refine ⟨j, e1, e2, e3, FinG.ok k1 ?_ f2⟩
      rw [e4, e5]
    · rw [hl] at q; cases q
  · obtain ⟨x1, x2, rfl⟩ := len2 (hl.trans h4)
    obtain ⟨c1, c2, rfl⟩ := len2 h4
    have hc1 : chkE T X.N sc c1 x1 = true ∧ chkE T X.N sc c2 x2 = true := by simpa [chkL] using h
    have s1 := starEach_ok (es := [x2]) (env := X.env) hc1.1
    have s2 := starEach_ok (es := []) (env := X.env) hc1.2
    refine main (pi_range2 (g.g.glb hg) (g.g.blt _ (by decide)) pa (by rw [s1, s2]; rfl) s2) fun σ H K0 ⟨w, ρ, k, f⟩ => ?_
    refine ⟨w, ρ, k, FinG.bind f (fun z => z) fun xs ρ1 vs w1 H1 hx ev1 k1 r1 s1 f1 => ?_⟩
    have hl := evL_len hx
    obtain ⟨p, e, f2⟩ := FinG.opt0 f1
    rcases rng_read (X := X) (W := W) r1 e with ⟨j, q, _⟩ | ⟨i, j, _, e1, e2, e4, e5⟩
    · rw [hl] at q; cases q
    · refine ⟨i, j, e1, e2, FinG.ok k1 ?_ f2⟩
      rw [e4, e5]
/-! ### while -/
def WhI (P : Pg) (Γ : Ga) (C : Nat → Addr) (W : WX) (fx : Nat → Bool) (c : Ex) (body : List Sm) (E : Ends) (m : Nat) (σ : L2.St) (H : Hp) : Prop :=
  ∃ w ρ, Ok C w H ρ σ ∧ FinS C W fx (whileGo (evB P Γ c) (exSs P Γ body) m ρ) w H σ E
theorem PS.whlV {body : List Sm} {sb : List Stmt} {p : Pos} (g : GoodS P Γ C T lev X sc W) (ht : PT X e (tT P Γ C W 0 c)) (hb : PSs X sb (tSs P Γ C W fx body)) : PS X (.While e sb [] p) (tS P Γ C W fx (.whl c body)) := by
  refine PS.imp (ps_while g.own ht hb) fun E σ H ⟨w, ρ, k, f⟩ => ?_
  refine ⟨WhI P Γ C W fx c body E, ⟨1000000, w, ρ, k, f⟩, ?_⟩
  rintro m σ H ⟨w, ρ, k, f⟩
  cases m with
  | zero => exact f.elim
  | succ n =>
    have f : FinS C W fx ((evB P Γ c ρ).fl fun k ρ => if k then (match exSs P Γ body ρ with
      | .nx ρ => whileGo (evB P Γ c) (exSs P Γ body) n ρ
      | .cnt ρ => whileGo (evB P Γ c) (exSs P Γ body) n ρ
      | .brk ρ => .nx ρ
      | o => o) else .nx ρ) w H σ E := f
    refine ⟨w, ρ, k, FinS.bind f fun kb ρ1 kb' w1 H1 _ ev1 k1 l1 f1 => ?_⟩
    have l1 : kb = kb' := l1
    subst l1
    cases kb with
    | false => exact FinS.go k1 f1
    | true =>
      rw [if_pos rfl] at f1
      refine ⟨WhI P Γ C W fx c body E n, fun σ' H' q => ⟨n, Nat.lt_succ_self n, q⟩, w1, ρ1, k1, ?_⟩
      cases hr : exSs P Γ body ρ1 with
      | nx ρ2 => rw [hr] at f1; exact fun σ' w' H' ev' fs k' => ⟨w', ρ2, k', FinS.evo ev' fs f1⟩
      | cnt ρ2 => rw [hr] at f1; exact fun σ' w' H' ev' fs k' => ⟨w', ρ2, k', FinS.evo ev' fs f1⟩
      | brk ρ2 => rw [hr] at f1; exact f1
      | ret x ρ2 => rw [hr] at f1; exact f1
      | exc c fs ρ2 => rw [hr] at f1; exact f1
      | bad => rw [hr] at f1; exact f1
end
end VS

set_option Elab.async false
set_option linter.all false
set_option maxRecDepth 100000
/-! VU: own errors, raised and caught by several clauses that give back. -/
namespace VS
open PySem PySem.Spec PyProof.Rows L2
abbrev Clause := Value × Option Nat × (Addr → Value → Option Addr → TS)
/-- what clauses that give back wish of an exception of the body -/
def wR (K : PySem.W.Frag) (Wo : WX) (rt : VK) : List Clause → WX
  | [] => Wo
  | (c, oi, ts) :: r => fun cls d σ H => ∃ b, PySem.W.exmOne K cls c = some b ∧ (b = true → ∀ a, H a = none → ts a cls d { nx := fun _ _ => False, rt := rt } (match oi with
      | some i => σ.set i (some (.ref a))
      | none => σ) H) ∧ (b = false → wR K Wo rt r cls d σ H)
inductive HdR (X : Cx) : List ExceptHandler → List Clause → Prop
  | nil : HdR X [] []
  | one {x : Str} {c : Value} {ts : Addr → Value → Option Addr → TS} {s0 : Stmt} {su : List Stmt} {np p : Pos} {hs : List ExceptHandler} {l : List Clause} (hc : Names X x c)
      (hsu : ∀ (a : Addr) (oe : Obj) (cls : Value) (d : Option Addr) (pn : List (Addr × Obj)), Zc cls d oe → (∃ vs, oe.data = .fields vs) → PSs (X.suite a ((a, oe) :: pn)) (s0 :: su) (ts a cls d)) (r : HdR X hs l) :
      HdR X (.ExceptHandler (some (.Name x np)) none (s0 :: su) p :: hs) ((c, none, ts) :: l)
  | as {x n : Str} {i : Nat} {c : Value} {ts : Addr → Value → Option Addr → TS} {s0 : Stmt} {su : List Stmt} {np p : Pos} {hs : List ExceptHandler} {l : List Clause} (hc : Names X x c) (hi : X.N[i]? = some n) (hn : X.env.kindOf n = some .local)
      (hsu : ∀ (a : Addr) (oe : Obj) (cls : Value) (d : Option Addr) (pn : List (Addr × Obj)), Zc cls d oe → (∃ vs, oe.data = .fields vs) → PSs (X.suite a ((a, oe) :: pn)) (s0 :: su) (ts a cls d)) (r : HdR X hs l) :
      HdR X (.ExceptHandler (some (.Name x np)) (some n) (s0 :: su) p :: hs) ((c, some i, ts) :: l)
theorem ps_tryR {X : Cx} {body : List Stmt} {h0 : ExceptHandler} {hs : List ExceptHandler} {l : List Clause} {pos : Pos} {tb : WX → TS} {Wo : WX} (hst : X.stack = X.env :: X.outer) (hfr : X.env.frame = some X.env.locals) (nd : X.N.Nodup) (tk : Takes X Wo)
    (hb : ∀ (W : WX) (pn : List (Addr × Obj)) (xe : Value → Shared → Prop), Takes (X.tr pn xe) W → PassesOwn (model X.prog X.w) X.A X.env xe → PSs (X.tr pn xe) body (tb W))
    (hh : HdR X (h0 :: hs) l) : PS X (.Try body (h0 :: hs) [] [] pos) (fun D σ H => tb (wR X.K Wo D.rt l) D σ H) := by
  refine ⟨fun pins s σ H D I hw => wpAny_Try_except (wpAny_mono ((hb (wR X.K Wo D.rt l) (X.pn ++ pins) (fun u s1 => wpAny (model X.prog X.w) X.A (noteFrame u X.env) (fun _ s2 => wpAny (model X.prog X.w) X.A (setFlight u none) (fun _ s3 =>
    wpAny (model X.prog X.w) X.A (handleBy u X.env (h0 :: hs)) (SP X pins D) X.xe s3) X.xe s2) X.xe s1) (fun u s' xx => ?_) PassesOwn.looking).run [] s σ H D (I.toTry _) hw) (fun f s1 q => ?_) (fun u s1 q => q))⟩
  · have kX := I.ok
    obtain ⟨a, G, sI, pins', σ1, H1, cls, d, rfl, J0, n1, u1, sk, a0, os1, g1, wish⟩ := xx
    have J1 := J0.ofTry kX
    have sk1 : Sky G (X.env :: X.outer) a (Zc cls d) X.env.locals s'.heap := by rw [← hst]; exact sk
    have fr1 : X.A.frames = some (X.env :: X.outer) := by rw [kX.frames, hst]
    show wpAny (model X.prog X.w) X.A (noteFrame (.ref a) X.env) _ _ _
    refine Sky.land Zc.steady fr1 hfr sk1 fun h3 F3 U3 => ?_
    have J3 : Inv X pins σ1 H1 { s' with heap := h3 } := J1.landed n1 F3.1 (u1.trans U3) os1 g1
    obtain ⟨oe3, us3, e3, z3, d3⟩ := F3.there
    have off : a ∉ frs (X.env :: X.outer) := fun hm => by
      obtain ⟨_, o', e', hn⟩ := F3.2.2.1.mem hm
      rw [e3] at e'
      cases e'
      exact hn _ d3
    have offL : a ≠ X.env.locals := fun z => off (List.mem_filterMap.mpr ⟨X.env, List.mem_cons_self, by rw [hfr, z]⟩)
    have offF : a ∉ X.fs := fun hm => by
      obtain ⟨e, he, q⟩ := List.mem_filterMap.mp hm
      exact off (List.mem_filterMap.mpr ⟨e, List.mem_cons_of_mem _ he, q⟩)
    have S3 := J3.suite e3 d3 a0 offL offF
    have run : ∀ {hl : List ExceptHandler} {cl : List Clause}, HdR X hl cl → wR X.K Wo D.rt cl cls d σ1 H1 → wpAny (model X.prog X.w) X.A (handleBy (.ref a) X.env hl) (SP X pins D) X.xe { s' with heap := h3 } := by
      have test : ∀ {x : Str} {c : Value} {np : Pos} {Q : Value → Shared → Prop} {E : Value → Shared → Prop}, Names X x c → Q c { s' with heap := h3 } → wpAny (model X.prog X.w) (X.A.mark (some (.ref a))) (eval (.Name x np) X.env) Q E { s' with heap := h3 } := fun {x c np Q E} hc q => by
        obtain ⟨n1, n2, n3 | ⟨n3, n4, n5⟩⟩ := hc
        · exact ld_glob (X := X.suite a ((a, oe3) :: (X.pn ++ pins))) S3 n1 n3 q n2
        · exact ld_blt (X := X.suite a ((a, oe3) :: (X.pn ++ pins))) S3 n1 n3 n4 q n5 n2
      have hit : ∀ {c : Value} {b : Bool}, PySem.W.exmOne X.K cls c = some b → _ := fun {c b} hb1 => PySem.W.exm_one (M := model X.prog X.w) J3.kIn (fun A Q E s k q => wpAny_typeOf_ref (k _ _ e3) (by rw [z3.1]; exact q)) hb1
      intro hl cl hk
      induction hk with
      | nil =>
        intro wish
        refine wpAny_handleBy_nil ?_
        obtain ⟨_, _, _, oe, us, L, oL, tl, he, hz, hd, hL, _⟩ := id F3
        have fin : wpAny (model X.prog X.w) X.A (setFlight (.ref a) X.env.frame) (fun _ s4 => wpAny (model X.prog X.w) X.A (throw (.ref a) : Sem Flow) (SP X pins D) X.xe s4) X.xe { s' with heap := h3 } := by
          rw [hfr]
          refine HandSPX.setFlight_upZ F3 fun h4 F4 U4 => wpAny_throw (tk _ _ ⟨a, G, sI, pins, σ1, H1, cls, d, rfl, J1, n1, (u1.trans U3).trans U4, ?_, a0, os1, g1, wish⟩)
          rw [hst]
          exact .inr (.inr F4)
        unfold PySem.passOn
        refine wpAny_bind (wpAny_field he hd hL ?_)
        rw [if_neg (fun z : (Value.ref L == Value.none) = true => by cases z)]
        first
          | exact wpAny_bind fin
          | exact wpAny_bind (wpAny_pure (wpAny_bind fin))
      | @one x c ts s0 su np p hs2 l2 hc hsu r ih =>
        intro ⟨b, hb1, yes, no⟩
        refine wpAny_handleBy_cons (codeAny_handlers_test ?_) (by intro q; cases q)
        refine test hc ((hit hb1).here ?_)
        cases b with
        | false =>
          show wpAny _ X.A (handleBy (.ref a) X.env hs2) _ _ _
          exact ih (no rfl)
        | true =>
          refine codeAny_handlers_suite (HandSPX.lands_againZ F3 fun h4 F4 U4 => ?_)
          obtain ⟨oe4, us4, e4, z4, d4⟩ := F4.there
          have J4 : Inv X pins σ1 H1 { s' with heap := h4 } := J1.landed n1 F4.1 ((u1.trans U3).trans U4) os1 g1
          refine wpAny_mono ((hsu a oe4 cls d (X.pn ++ pins) z4 ⟨_, d4⟩).run [] _ _ H1 _ (J4.suite e4 d4 a0 offL offF) (yes rfl a a0)) (fun f s6 q => ?_) (fun _ _ z => z.elim)
          cases f with
          | next => obtain ⟨_, _, _, z⟩ := q; exact z.elim
          | brk => obtain ⟨_, _, _, z⟩ := q; exact z.elim
          | cont => obtain ⟨_, _, _, z⟩ := q; exact z.elim
          | ret u => obtain ⟨v6, σ6, H6, S6, r6, q6⟩ := q; exact ⟨_, _, _, S6.unsuite kX, r6, q6⟩
      | @as x n i c ts s0 su np p hs2 l2 hc hi hn hsu r ih =>
        intro ⟨b, hb1, yes, no⟩
        refine wpAny_handleBy_cons (codeAny_handlers_test ?_) (by intro q; cases q)
        refine test hc ((hit hb1).here ?_)
        cases b with
        | false =>
          show wpAny _ X.A (handleBy (.ref a) X.env hs2) _ _ _
          exact ih (no rfl)
        | true =>
          refine codeAny_handlers_suite_as (HandSPX.lands_againZ F3 fun h4 F4 U4 => ?_)
          obtain ⟨oe4, us4, e4, z4, d4⟩ := F4.there
          have J4 : Inv X pins σ1 H1 { s' with heap := h4 } := J1.landed n1 F4.1 ((u1.trans U3).trans U4) os1 g1
          refine store_ok (X := X.suite a ((a, oe4) :: (X.pn ++ pins))) (v := .ref a) (J4.suite e4 d4 a0 offL offF) nd hi (.inl hn) rfl (fun s5 S5 => ?_) (.inr hn)
          refine wpAny_mono ((hsu a oe4 cls d (X.pn ++ pins) z4 ⟨_, d4⟩).run [] s5 _ H1 _ S5 (yes rfl a a0)) (fun f s6 q => ?_) (fun _ _ z => z.elim)
          cases f with
          | next => obtain ⟨_, _, _, z⟩ := q; exact z.elim
          | brk => obtain ⟨_, _, _, z⟩ := q; exact z.elim
          | cont => obtain ⟨_, _, _, z⟩ := q; exact z.elim
          | ret u =>
            obtain ⟨v6, σ6, H6, S6, r6, q6⟩ := q
            exact gone_ok (S6.unsuite kX) nd hi hn fun s7 J7 => ⟨_, _, _, J7, r6, q6⟩
    exact run hh wish
  · cases f with
    | next => obtain ⟨_, _, z, q⟩ := q; exact wpAny_execs_nil ⟨_, _, z.ofTry I.ok, q⟩
    | brk => obtain ⟨_, _, z, q⟩ := q; exact ⟨_, _, z.ofTry I.ok, q⟩
    | cont => obtain ⟨_, _, z, q⟩ := q; exact ⟨_, _, z.ofTry I.ok, q⟩
    | ret u => obtain ⟨_, _, _, z, rr, q⟩ := q; exact ⟨_, _, _, z.ofTry I.ok, rr, q⟩
end VS

set_option Elab.async false
set_option linter.all false
set_option maxRecDepth 100000
/-! VV: raise and try. -/
namespace VS
open PySem PySem.Spec PyProof.Rows L2
def tMkF (C : Addr) (fl : Str) (ta : TA) : L2.St → Hp → XK → Prop := fun σ H Q => ta σ H fun vs H1 => ∃ v, vs = [v] ∧ ∀ d, H1 d = none → Q (.ref C) (some d) (upd H1 d (.xd [(fl, v)]))
def tByF (a : Addr) (d : Option Addr) (f : Str) (te : TE) : TE := fun σ H Q => te σ H fun x H1 => x = .ref a ∧ ∃ dd v, d = some dd ∧ H1 dd = some (.xd [(f, v)]) ∧ Q v H1
/-- what an own error class with a field gives -/
structure ErrC (K : PySem.W.Frag) (mg : Str → Option Value) (C : Addr) (nm fl : Str) : Prop where
  made : ∀ {X : Cx} {a : Expr} {ta : TA} {p pos : Pos} {k : Nat}, X.K = K → X.mg = mg → Room k X.A → PA X [a] ta → Gl X nm → (nm == ("__debug__" : Str)) = false → starEach [a] X.env = (false, eval a X.env) :: starEach [] X.env → PMk X (.Call (.Name nm p) [a] [] pos) (tMkF C fl ta)
  fd : ∀ {X : Cx} {a : Addr} {oe : Obj} {d : Option Addr} {pn : List (Addr × Obj)} {e : Expr} {te : TE} {pos : Pos}, X.K = K → Zc (.ref C) d oe → (∃ vs, oe.data = .fields vs) → PE (X.suite a ((a, oe) :: pn)) e te → base e = true → PE (X.suite a ((a, oe) :: pn)) (.Attribute e fl pos) (tByF a d fl te)
structure Errs (P : Pg) (T : Tx) (C : Nat → Addr) (K : PySem.W.Frag) (mg : Str → Option Value) : Prop where
  er : ∀ c, P.ek c = true → ErrC K mg (C c) (T.cnm c) (P.ef c)
  hd : ∀ k, T.hk k = true → mg (T.cnm k) = some (.ref (C k))
  su : ∀ c k, P.ek c = true → T.hk k = true → PySem.W.exmOne K (.ref (C c)) (.ref (C k)) = some (P.sup c k)
/-- only new objects -/
structure Grow (w : Wh) (H : Hp) (w' : Wh) (H' : Hp) : Prop where
  sm : Same H H'
  kw : ∀ a o, H a = some o → w' a = w a
  al : ∀ a, H' a = none → H a = none
section
variable {P : Pg} {Γ : Ga} {C : Nat → Addr} {T : Tx} {lev : Nat} {X : Cx} {sc : Scope} {W : WX} {n : Nat} {c : Ex} {e : Expr} {pos : Pos} {ρ ρ' : En} {w w' : Wh} {H H' : Hp} {σ σ' : L2.St} {fx : Nat → Bool} {E : Ends}
theorem Grow.refl : Grow w H w H := ⟨.refl H, fun _ _ _ => rfl, fun _ h => h⟩
theorem Grow.trans {w2 : Wh} {H2 : Hp} (a : Grow w H w' H') (b : Grow w' H' w2 H2) : Grow w H w2 H2 := ⟨a.sm.trans b.sm, fun x o h => (b.kw x o (a.sm x o h)).trans (a.kw x o h), fun x h => a.al x (b.al x h)⟩
theorem Grow.evo (g : Grow w H w' H') : Evo n w H w' H' := ⟨fun a o h _ => g.sm a o h, fun a o h _ => .inl (g.kw a o h), g.al⟩
theorem Rep.grow {d : VS.D} {m : Md} {i : Id} {v : V} (g : Grow w H w' H') (r : Rep C w H d m i v) : Rep C w' H' d m i v := by
  have key : ∀ m : Md, Keeps w w' H H' m m i i := fun m => .id (fun a o q _ => ⟨g.kw a o q, g.sm a o q⟩) fun a o q z => ⟨(g.kw a o q).trans z, g.sm a o q⟩
  exact Rep.map d m m v (key m) (key _) r
theorem RepF.grow {d : List (Str × VS.D)} {m : Md} {i : Id} {v : List (Str × V)} (g : Grow w H w' H') (r : RepF C w H d m i v) : RepF C w' H' d m i v := by
  have key : ∀ m : Md, Keeps w w' H H' m m i i := fun m => .id (fun a o q _ => ⟨g.kw a o q, g.sm a o q⟩) fun a o q z => ⟨(g.kw a o q).trans z, g.sm a o q⟩
  exact RepF.map d m m v (key m) (key _) r
theorem Ok.grow (g : Grow w H w' H') (nt : Neat w' H') (k : Ok C w H ρ σ) : Ok C w' H' ρ σ := ⟨k.len, fun i d m h => let ⟨v, h1, h2⟩ := k.rep i d m h; ⟨v, h1, h2.grow g⟩, nt.1, nt.2⟩
/-- the caught error, as the suite finds it -/
structure HxI (P : Pg) (C : Nat → Addr) (oi : Option Nat) (a : Addr) (cls : Value) (d : Option Addr) (fs : List (Str × VS.D)) (σ : L2.St) (w : Wh) (H : Hp) : Prop where
  ex : ∃ c dd v x, P.ek c = true ∧ cls = .ref (C c) ∧ d = some dd ∧ fs = [(P.ef c, x)] ∧ H dd = some (.xd [(P.ef c, v)]) ∧ Rep C w H x .fz (.t 0) v
  sl : ∀ i, oi = some i → σ[i]? = some (some (.ref a))
  nt : Neat w H
theorem HxI.grow {oi : Option Nat} {a : Addr} {cls : Value} {d : Option Addr} {fs : List (Str × VS.D)} (g : Grow w H w' H') (nt : Neat w' H') (h : HxI P C oi a cls d fs σ w H) : HxI P C oi a cls d fs σ w' H' :=
  let ⟨c, dd, v, x, h1, h2, h3, h4, h5, h6⟩ := h.ex
  ⟨⟨c, dd, v, x, h1, h2, h3, h4, g.sm _ _ h5, h6.grow g⟩, h.sl, nt⟩
def tHx (P : Pg) (C : Nat → Addr) (oi : Option Nat) (a : Addr) (cls : Value) (d : Option Addr) (b : Hx) : TE := fun σ H Q => ∃ w fs dv, HxI P C oi a cls d fs σ w H ∧ hxD fs b = some dv ∧ ∀ v w' H', Grow w H w' H' → Neat w' H' → Rep C w' H' dv .fz (.t 0) v → Q v H'
def tHl (P : Pg) (C : Nat → Addr) (oi : Option Nat) (a : Addr) (cls : Value) (d : Option Addr) (b : List Hx) : TA := fun σ H Q => ∃ w fs dv, HxI P C oi a cls d fs σ w H ∧ hxL fs b = some dv ∧ ∀ vs w' H', Grow w H w' H' → Neat w' H' → RepL C w' H' dv .fz (.t 0) vs → Q vs H'
def chkC (c : Ex) (e : Expr) : Bool := match c, e with
  | .int i, .Constant (.int j) _ _ => decide (i = j)
  | .str x, .Constant (.str y) _ _ => decide (x = y)
  | .bl b, .Constant (.bool d) _ _ => b == d
  | .non, .Constant .none _ _ => true
  | _, _ => false
mutual
def chkH (N : List Str) (sc : Scope) (oi : Option Nat) (b : Hx) (e : Expr) : Bool := match b with
  | .lit c => chkC c e
  | .fld f => match e with
    | .Attribute x g _ => decide (f = g) && VS.base x && (match oi with
      | some i => chkV N sc i x
      | none => false)
    | _ => false
  | .tup l => match e with
    | .Tuple es _ _ => chkHs N sc oi l es
    | _ => false
def chkHs (N : List Str) (sc : Scope) (oi : Option Nat) (l : List Hx) (es : List Expr) : Bool := match l with
  | [] => match es with
    | [] => true
    | _ => false
  | b :: r => match es with
    | e :: es => chkH N sc oi b e && chkHs N sc oi r es
    | _ => false
end
theorem starH {N : List Str} {oi : Option Nat} {b : Hx} {es : List Expr} {env : Env} (h : chkH N sc oi b e = true) : starEach (e :: es) env = (false, eval e env) :: starEach es env := by
  cases e with
  | Starred x p =>
    unfold chkH at h
    cases b with
    | lit c => cases c <;> simp [chkC] at h
    | _ => simp at h
  | _ => rfl
theorem rep_fz {d : VS.D} {i : Id} {v : V} (p : VS.imm d = true) (h : Vw C H d v → True) (r : Rep C w H d .dp i v) : Rep C w H d .fz i v := r.any p
-- the suite
mutual
theorem PE.hx {oi : Option Nat} {a : Addr} {oe : Obj} {cls : Value} {d : Option Addr} {pn : List (Addr × Obj)} (er : ∀ c, P.ek c = true → ErrC X.K X.mg (C c) (T.cnm c) (P.ef c)) (hz : Zc cls d oe) (hf : ∃ vs, oe.data = .fields vs) (hs : X.env.scope = sc) :
    ∀ (b : Hx) (e : Expr), chkH X.N sc oi b e = true → PE (X.suite a ((a, oe) :: pn)) e (tHx P C oi a cls d b)
  | .lit c, e, h => by
    unfold chkH at h
    unfold chkC at h
    split at h
    · rw [of_decide_eq_true h]; exact PE.imp pe_int fun σ H Q ⟨w, fs, dv, I, q, k⟩ => by cases q; exact k _ w H .refl I.nt rfl
    · rw [of_decide_eq_true h]; exact PE.imp pe_str fun σ H Q ⟨w, fs, dv, I, q, k⟩ => by cases q; exact k _ w H .refl I.nt rfl
    · rw [beq_iff_eq.mp h]; exact PE.imp pe_bl fun σ H Q ⟨w, fs, dv, I, q, k⟩ => by cases q; exact k _ w H .refl I.nt rfl
    · exact PE.imp pe_non fun σ H Q ⟨w, fs, dv, I, q, k⟩ => by cases q; exact k _ w H .refl I.nt rfl
    · cases h
  | .fld f, e, h => by
    unfold chkH at h
    split at h
    · rename_i x g p
      simp only [Bool.and_eq_true, decide_eq_true_eq] at h
      obtain ⟨⟨rfl, h2⟩, h3⟩ := h
      cases oi with
      | none => cases h3
      | some i =>
        obtain ⟨y, q, rfl, n1, n2, n3, n4⟩ := chkV_ok h3
        refine ⟨fun pins s σ H Q I ⟨w, fs, dv, hx, hd, k⟩ => ?_⟩
        obtain ⟨c, dd, v, x, e1, e2, e3, e4, e5, e6⟩ := hx.ex
        subst e4
        have hd : List.lookup f [(P.ef c, x)] = some dv := hd
        have ef : f = P.ef c ∧ x = dv := by
          rw [List.lookup_cons] at hd
          cases z : f == P.ef c with
          | true => rw [z] at hd; exact ⟨beq_iff_eq.mp z, Option.some.inj hd⟩
          | false => rw [z] at hd; cases hd
        obtain ⟨rfl, rfl⟩ := ef
        subst e2
        have pv : PE (X.suite a ((a, oe) :: pn)) (.Name y q) (tVar i) := pe_var n1 (by show Vis X.env.scope y; rw [hs]; exact n2) n3 n4
        exact ((er c e1).fd rfl hz hf pv h2).run pins s σ H Q I ⟨_, hx.sl i rfl, rfl, dd, v, e3, e5, k v w H .refl hx.nt e6⟩
    · cases h
  | .tup l, e, h => by
    unfold chkH at h
    split at h
    · refine PE.imp (pe_tup (PA.hx er hz hf hs l _ h)) fun σ H Q ⟨w, fs, dv, hx, hd, k⟩ => ?_
      have hd : (if l.length ≤ 4 then (hxL fs l).map .tup else none) = some dv := hd
      split at hd
      · rename_i hl
        cases q : hxL fs l with
        | none => rw [q] at hd; cases hd
        | some ds =>
          rw [q] at hd
          cases hd
          refine ⟨w, fs, ds, hx, q, fun vs w' H' g nt r => ?_⟩
          have len : ∀ {l : List Hx} {ds : List VS.D}, hxL fs l = some ds → ds.length = l.length := fun {l} => by
            induction l with
            | nil => intro ds q; cases q; rfl
            | cons b l ih =>
              intro ds q
              unfold hxL at q
              cases h1 : hxD fs b with
              | none => rw [h1] at q; cases q
              | some x =>
                rw [h1] at q
                cases h2 : hxL fs l with
                | none => simp [h2] at q
                | some xs => simp [h2] at q; subst q; rw [List.length_cons, List.length_cons, ih h2]
          refine ⟨?_, fun p hp => ?_⟩
          · rw [r.length, len q]
            exact Nat.le_trans hl (by decide)
          · refine k (.ref p) (own1 w' p .fz) _ (g.trans ⟨same_new hp, fun a o z => own1_ne (ne_of_none z hp), fun a z => ?_⟩) ⟨fun a z => ?_, fun a us z => ?_⟩ ⟨p, vs, rfl, own1_same, upd_same, (r.new hp).fzId⟩
            · by_cases y : a = p
              · rw [y]; exact hp
              · rw [upd_ne y] at z; exact z
            · by_cases y : a = p
              · rw [y, upd_same] at z; cases z
              · rw [upd_ne y] at z; rw [own1_ne y]; exact nt.1 a z
            · by_cases y : a = p
              · rw [y, own1_same]; exact .inr rfl
              · rw [upd_ne y] at z; rw [own1_ne y]; exact nt.2 a us z
      · cases hd
    · cases h
theorem PA.hx {oi : Option Nat} {a : Addr} {oe : Obj} {cls : Value} {d : Option Addr} {pn : List (Addr × Obj)} (er : ∀ c, P.ek c = true → ErrC X.K X.mg (C c) (T.cnm c) (P.ef c)) (hz : Zc cls d oe) (hf : ∃ vs, oe.data = .fields vs) (hs : X.env.scope = sc) :
    ∀ (l : List Hx) (es : List Expr), chkHs X.N sc oi l es = true → PA (X.suite a ((a, oe) :: pn)) es (tHl P C oi a cls d l)
  | [], [], _ => PA.imp pa_nil fun σ H Q ⟨w, fs, dv, I, q, k⟩ => by cases q; exact k _ w H .refl I.nt rfl
  | b :: l, e :: es, h => by
    simp only [chkHs, Bool.and_eq_true] at h
    refine PA.imp (pa_cons (PE.hx er hz hf hs b e h.1) (PA.hx er hz hf hs l es h.2) (starH h.1)) fun σ H Q ⟨w, fs, dv, I, q, k⟩ => ?_
    unfold hxL at q
    cases h1 : hxD fs b with
    | none => rw [h1] at q; cases q
    | some x =>
      rw [h1] at q
      cases h2 : hxL fs l with
      | none => simp [h2] at q
      | some xs =>
        simp [h2] at q
        subst q
        exact ⟨w, fs, x, I, h1, fun v w1 H1 g1 nt1 r1 => ⟨w1, fs, xs, I.grow g1 nt1, h2, fun vs w2 H2 g2 nt2 r2 => k (v :: vs) w2 H2 (g1.trans g2) nt2 ⟨v, vs, rfl, r1.grow g2, r2⟩⟩⟩
  | [], _ :: _, h => by simp [chkHs] at h
  | _ :: _, [], h => by simp [chkHs] at h
end
end
end VS

set_option Elab.async false
set_option linter.all false
set_option maxRecDepth 100000
/-! VW: every statement that the check lets; every def. -/
namespace VS
open PySem PySem.Spec PyProof.Rows L2
structure GoodT (P : Pg) (Γ : Ga) (C : Nat → Addr) (T : Tx) (lev : Nat) (X : Cx) (sc : Scope) (W : WX) : Prop where
  s : GoodS P Γ C T lev X sc W
  tk : Takes X W
  st : X.stack = X.env :: X.outer
  fr : X.env.frame = some X.env.locals
  er : Errs P T C X.K X.mg
section
variable {P : Pg} {Γ : Ga} {C : Nat → Addr} {T : Tx} {lev : Nat} {X : Cx} {sc : Scope} {W : WX} {n : Nat} {c : Ex} {e : Expr} {pos : Pos} {ρ ρ' : En} {w w' : Wh} {H H' : Hp} {σ σ' : L2.St} {fx : Nat → Bool} {E : Ends}
theorem GoodT.tr (g : GoodT P Γ C T lev X sc W) {W' : WX} {pn : List (Addr × Obj)} {xe : Value → Shared → Prop} (tk : Takes (X.tr pn xe) W') (po : PassesOwn (model X.prog X.w) X.A X.env xe) : GoodT P Γ C T lev (X.tr pn xe) sc W' where
  s := { g := { nd := g.s.g.nd, sc := g.s.g.sc, calm := g.s.g.calm, room := g.s.g.room, pass := fun σ => passAt (X := X.tr pn xe) tk σ, blt := g.s.g.blt, fld := g.s.g.fld, mks := g.s.g.mks, mts := g.s.g.mts, fns := g.s.g.fns }, own := po, lo := g.s.lo }
  tk := tk
  st := g.st
  fr := g.fr
  er := g.er
theorem PS.raiseV {k : Nat} {x : Str} {p cp p2 : Pos} (g : GoodT P Γ C T lev X sc W) (hk : P.ek k = true) (hx : x = T.cnm k) (hg : VS.glb sc x = true) (hd : nmOk x = true) (h : chkE T X.N sc c e = true) : PS X (.Raise (some (.Call (.Name x p) [e] [] cp)) none p2) (tS P Γ C W fx (.raise k c)) := by
  subst hx
  have hnm : (T.cnm k == ("__debug__" : Str)) = false := by
    simp only [nmOk, Bool.and_eq_true, Bool.not_eq_true'] at hd
    exact hd.1
  refine PS.imp (ps_raise g.s.g.calm g.tk ((g.er.er k hk).made rfl rfl g.s.g.room (pa_cons (snd c |>.run g.s.g h 0).1 pa_nil (starEach_ok h)) (g.s.g.glb hg) hnm (starEach_ok h))) fun D σ H ⟨w, ρ, kk, f⟩ => ?_
  have f : FinS C W fx ((ev P Γ c ρ).fl fun x ρ => .exc k [(P.ef k, x.1)] ρ) w H σ D := f
  refine ⟨w, ρ, kk, ?_⟩
  rw [← FinG.fin]
  refine FinS.bind f fun x ρ1 v w1 H1 _ ev1 k1 r1 f1 => ⟨v, rfl, fun d hd => ?_⟩
  have r2 : Rep C (frz (geT 0) w1) H1 x.1 .fz (.t 0) v := Rep.frzIn (by simp [geT]) r1
  exact f1 d _ σ (own1 (frz (geT 0) w1) d .fz) _ ((Evo.frz fun j hj => by omega).trans (Evo.new hd)) .refl ((k1.frzT fun i => rfl).new hd) upd_same ⟨v, [], rfl, r2.new hd, rfl⟩
/-- a clause that gives back -/
def chk1 (T : Tx) (N : List Str) (sc : Scope) (h : Nat × Option Nat × Hx) (e : ExceptHandler) : Bool := match e with
  | .ExceptHandler (some (.Name x _)) none [.Return (some e) _] _ => decide (h.2.1 = none) && decide (x = T.cnm h.1) && T.hk h.1 && glb sc x && nmOk x && chkH N sc h.2.1 h.2.2 e
  | .ExceptHandler (some (.Name x _)) (some n) [.Return (some e) _] _ => decide (x = T.cnm h.1) && T.hk h.1 && glb sc x && nmOk x && (match h.2.1 with
    | some i => decide (N[i]? = some n)
    | none => false) && decide (sc.names.lookup n = some .local) && chkH N sc h.2.1 h.2.2 e
  | _ => false
def chkHd (T : Tx) (N : List Str) (sc : Scope) : List (Nat × Option Nat × Hx) → List ExceptHandler → Bool
  | [], [] => true
  | h :: r, e :: hs => chk1 T N sc h e && chkHd T N sc r hs
  | _, _ => false
def clOf (P : Pg) (C : Nat → Addr) (h : Nat × Option Nat × Hx) : Clause := (.ref (C h.1), h.2.1, fun a cls d => tRet (tHx P C h.2.1 a cls d h.2.2))
theorem HdR.ofC (g : GoodT P Γ C T lev X sc W) : ∀ (l : List (Nat × Option Nat × Hx)) (hs : List ExceptHandler), chkHd T X.N sc l hs = true → HdR X hs (l.map (clOf P C))
  | [], [], _ => .nil
  | [], _ :: _, h => by simp [chkHd] at h
  | _ :: _, [], h => by simp [chkHd] at h
  | (k, oi, b) :: r, hd :: hs, h => by
    simp only [chkHd, Bool.and_eq_true] at h
    have ih := HdR.ofC g r hs h.2
    have h1 := h.1
    have nm : ∀ {x : Str}, nmOk x = true → (x == ("__debug__" : Str)) = false := fun {x} h4 => by
      simp only [nmOk, Bool.and_eq_true, Bool.not_eq_true'] at h4
      exact h4.1
    unfold chk1 at h1
    split at h1
    · simp only [Bool.and_eq_true, decide_eq_true_eq] at h1
      obtain ⟨⟨⟨⟨⟨h0, h2⟩, h3⟩, h4⟩, h5⟩, h6⟩ := h1
      subst h0 h2
      exact .one ⟨g.s.g.glb h4, nm h5, .inl (g.er.hd k h3)⟩ (fun a oe cls d pn hz hf => pss_one (ps_ret (PE.hx g.er.er hz hf g.s.g.sc b _ h6))) ih
    · cases oi with
      | none => simp at h1
      | some i =>
        simp only [Bool.and_eq_true, decide_eq_true_eq] at h1
        obtain ⟨⟨⟨⟨⟨⟨h2, h3⟩, h4⟩, h5⟩, h7⟩, h8⟩, h6⟩ := h1
        subst h2
        exact .as ⟨g.s.g.glb h4, nm h5, .inl (g.er.hd k h3)⟩ h7 (by show X.env.scope.names.lookup _ = _; rw [g.s.g.sc]; exact h8) (fun a oe cls d pn hz hf => pss_one (ps_ret (PE.hx g.er.er hz hf g.s.g.sc b _ h6))) ih
    · cases h1
theorem wR_of {K : PySem.W.Frag} {mg : Str → Option Value} {c : Nat} {dx : Addr} {v0 : V} {x0 : VS.D} (er : Errs P T C K mg) (z1 : P.ek c = true) (k1 : Ok C w H ρ σ) (hx : H dx = some (.xd [(P.ef c, v0)])) (r2 : Rep C w H x0 .fz (.t 0) v0) :
    ∀ (l : List (Nat × Option Nat × Hx)), (∀ h ∈ l, T.hk h.1 = true) → FinS C W fx (match clause P c l with
      | some (oi, b) => if oi.all (fun i => decide (i < ρ.length)) then (match hxD [(P.ef c, x0)] b with
        | some d => .ret (itemM d) ρ
        | none => .bad) else .bad
      | none => .exc c [(P.ef c, x0)] ρ) w H σ E → wR K W E.rt (l.map (clOf P C)) (.ref (C c)) (some dx) σ H
  | [], _, f => f dx _ σ w H .refl .refl k1 hx ⟨v0, [], rfl, r2, rfl⟩
  | (kk, oi, b) :: r, hl, f => by
    refine ⟨P.sup c kk, er.su c kk z1 (hl _ List.mem_cons_self), fun hy a ha => ?_, fun hn => ?_⟩
    · have hcl : clause P c ((kk, oi, b) :: r) = some (oi, b) := by unfold clause; rw [hy, if_pos rfl]
      rw [hcl] at f
      dsimp only at f
      cases hoi : oi.all (fun i => decide (i < ρ.length)) with
      | false => rw [hoi] at f; exact f.elim
      | true =>
        rw [hoi, if_pos rfl] at f
        cases hd : hxD [(P.ef c, x0)] b with
        | none => rw [hd] at f; exact f.elim
        | some dv =>
          rw [hd] at f
          refine ⟨w, _, dv, ⟨⟨c, dx, v0, x0, z1, rfl, rfl, rfl, hx, r2⟩, fun i hi => ?_, ⟨k1.nn, k1.tp⟩⟩, hd, fun v w2 H2 gr nt rv => ?_⟩
          · have hi : oi = some i := hi
            subst hi
            have hlt : i < ρ.length := of_decide_eq_true hoi
            show (σ.set i (some (V.ref a)))[i]? = _
            rw [List.getElem?_set_self (by rw [← k1.len]; exact hlt)]
          · refine f v σ w2 H2 gr.evo .refl (k1.grow gr nt) ?_
            unfold itemM
            cases hi : VS.imm dv with
            | true => exact rv.any hi
            | false => exact rv
    · have hcl : clause P c ((kk, oi, b) :: r) = clause P c r := by
        have hn' : P.sup c kk = false := hn
        show (if P.sup c kk then _ else _) = _
        rw [hn', if_neg Bool.false_ne_true]
      rw [hcl] at f
      exact wR_of er z1 k1 hx r2 r (fun h hm => hl h (List.mem_cons_of_mem _ hm)) f
theorem PS.tryV {body : List Sm} {sb : List Stmt} {l : List (Nat × Option Nat × Hx)} {h0 : ExceptHandler} {hs : List ExceptHandler} {p : Pos} (g : GoodT P Γ C T lev X sc W) (hl : ∀ h ∈ l, T.hk h.1 = true) (hh : chkHd T X.N sc l (h0 :: hs) = true)
    (hb : ∀ (W' : WX) (pn : List (Addr × Obj)) (xe : Value → Shared → Prop), GoodT P Γ C T lev (X.tr pn xe) sc W' → PSs (X.tr pn xe) sb (tSs P Γ C W' fx body)) : PS X (.Try sb (h0 :: hs) [] [] p) (tS P Γ C W fx (.tri body l)) := by
  refine PS.imp (ps_tryR (tb := fun W' => tSs P Γ C W' fx body) g.st g.fr g.s.g.nd g.tk (fun W' pn xe tk po => hb W' pn xe (g.tr tk po)) (HdR.ofC g l _ hh)) fun D σ H ⟨w, ρ, k, f⟩ => ⟨w, ρ, k, ?_⟩
  have f : FinS C W fx (match exSs P Γ body ρ with
    | .exc c fs ρ => if P.ek c && oneF (P.ef c) fs then (match clause P c l with
      | some (oi, b) => if oi.all (fun i => decide (i < ρ.length)) then (match hxD fs b with
        | some d => .ret (itemM d) ρ
        | none => .bad) else .bad
      | none => .exc c fs ρ) else .bad
    | o => o) w H σ D := f
  cases he : exSs P Γ body ρ with
  | nx ρ1 => rw [he] at f; exact f
  | ret x ρ1 => rw [he] at f; exact f
  | brk ρ1 => rw [he] at f; exact f
  | cnt ρ1 => rw [he] at f; exact f
  | bad => rw [he] at f; exact f
  | exc c fs ρ1 =>
    rw [he] at f
    dsimp only at f
    cases hz : P.ek c && oneF (P.ef c) fs with
    | false => rw [hz] at f; exact f.elim
    | true =>
      rw [hz, if_pos rfl] at f
      obtain ⟨z1, z2⟩ := Bool.and_eq_true _ _ ▸ hz
      obtain ⟨x0, rfl⟩ : ∃ x0, fs = [(P.ef c, x0)] := by
        unfold oneF at z2
        split at z2
        · rw [of_decide_eq_true z2]; exact ⟨_, rfl⟩
        · cases z2
      intro dx fv σ1 w1 H1 ev1 fx1 k1 hx r1
      obtain ⟨v0, vr, e1, r2, e2⟩ := r1
      rw [show vr = [] from e2] at e1
      subst e1
      exact wR_of g.er z1 k1 hx r2 l hl (FinS.evo ev1 fx1 f)
end
end VS

set_option Elab.async false
set_option linter.all false
set_option maxRecDepth 100000
/-! VX: the check of statements, and all defs at all depths. -/
namespace VS
open PySem PySem.Spec PyProof.Rows L2
def notTup : Expr → Bool
  | .Tuple _ _ _ => false
  | _ => true
section
variable (T : Tx) (P : Pg) (N : List Str) (sc : Scope) (fx : Nat → Bool)
mutual
def chkS (s : Sm) (st : Stmt) : Bool := match s with
  | .set i c => match st with
    | .Assign [.Name x p] e _ => decide (N[i]? = some x) && loc sc x && !fx i && (!isComp c || (swOk x p e && decide (sc.names.lookup x = some .local))) && chkE T N sc c e
    | _ => false
  | .setT is c => match st with
    | .Assign [.Tuple ts _ _] e _ => chkTs N sc is ts && is.all (fun i => !fx i) && notTup e && chkE T N sc c e
    | _ => false
  | .aug i op c => match st with
    | .AugAssign (.Name x _) o e _ => decide (N[i]? = some x) && loc sc x && !fx i && isAS op && decide (o = ipO op) && chkE T N sc c e
    | _ => false
  | .setIx i k c => match st with
    | .Assign [.Subscript o x _] e _ => chkV N sc i o && chkE T N sc k x && chkE T N sc c e
    | _ => false
  | .setK i k c => match st with
    | .Assign [.Subscript o x _] e _ => chkV N sc i o && chkE T N sc k x && chkE T N sc c e
    | _ => false
  | .augIx i k op c => match st with
    | .AugAssign (.Subscript o x _) q e _ => isAS op && decide (q = ipO op) && chkV N sc i o && chkE T N sc k x && chkE T N sc c e
    | _ => false
  | .app i c => match st with
    | .Expr (.Call (.Attribute o m ap) [e] [] cp) _ => decide (m = ("append" : Str)) && (ap.endLine == cp.line) && chkV N sc i o && chkE T N sc c e
    | _ => false
  | .expr c => match st with
    | .Expr e _ => !isComp c && chkE T N sc c e
    | _ => false
  | .ret c => match st with
    | .Return (some e) _ => chkE T N sc c e
    | _ => false
  | .retN => match st with
    | .Return none _ => true
    | _ => false
  | .ife t a b => match st with
    | .If e la lb _ => chkE T N sc t e && chkSs a la && chkSs b lb
    | _ => false
  | .forR i as body => match st with
    | .For tg (.Call (.Name r _) xs [] _) sb [] _ => decide (r = ("range" : Str)) && !fx i && glb sc r && decide (as.length = 1 ∨ as.length = 2) && chkL T N sc as xs && chkT1 N sc i tg && chkSs body sb
    | _ => false
  | .forL tup is c body => match st with
    | .For tg e sb [] _ => is.all (fun i => !fx i) && chkE T N sc c e && chkTg N sc tup is tg && chkSs body sb
    | _ => false
  | .raise k c => match st with
    | .Raise (some (.Call (.Name x _) [e] [] _)) none _ => P.ek k && decide (x = T.cnm k) && glb sc x && nmOk x && chkE T N sc c e
    | _ => false
  | .tri body hs => match st with
    | .Try sb (h0 :: hd) [] [] _ => hs.all (fun h => T.hk h.1) && chkHd T N sc hs (h0 :: hd) && chkSs body sb
    | _ => false
  | .whl t body => match st with
    | .While e sb [] _ => chkE T N sc t e && chkSs body sb
    | _ => false
  | .brk => match st with
    | .Break _ => true
    | _ => false
  | .cnt => match st with
    | .Continue _ => true
    | _ => false
  | .pass => match st with
    | .Pass _ => true
    | _ => false
  | .setF i f c => match st with
    | .Assign [.Attribute o g _] e _ => decide (f = g) && chkV N sc i o && chkE T N sc c e
    | _ => false
  | .insr _ _ _ => false
  | .hole => false
def chkSs (ss : List Sm) (sts : List Stmt) : Bool := match ss with
  | [] => match sts with
    | [] => true
    | _ => false
  | s :: r => match sts with
    | st :: rest => chkS s st && chkSs r rest
    | _ => false
end
end
structure Std (P : Pg) (Γ : Ga) (C : Nat → Addr) (T : Tx) (lev : Nat) (fx : Nat → Bool) (s : Sm) : Prop where
  run : ∀ {X : Cx} {sc : Scope} {W : WX} {st : Stmt}, GoodT P Γ C T lev X sc W → chkS T P X.N sc fx s st = true → PS X st (tS P Γ C W fx s)
structure StdL (P : Pg) (Γ : Ga) (C : Nat → Addr) (T : Tx) (lev : Nat) (fx : Nat → Bool) (s : List Sm) : Prop where
  run : ∀ {X : Cx} {sc : Scope} {W : WX} {st : List Stmt}, GoodT P Γ C T lev X sc W → chkSs T P X.N sc fx s st = true → PSs X st (tSs P Γ C W fx s)
section
variable {P : Pg} {Γ : Ga} {C : Nat → Addr} {T : Tx} {lev : Nat} {fx : Nat → Bool}
theorem all_not {is : List Nat} (h : is.all (fun i => !fx i) = true) : ∀ i ∈ is, fx i = false := fun i hi => by simpa using List.all_eq_true.mp h i hi
mutual
theorem std : ∀ s : Sm, Std P Γ C T lev fx s
  | .set i c => ⟨fun {X sc W st} g h => by
    unfold chkS at h
    split at h
    · simp only [Bool.and_eq_true, decide_eq_true_eq, Bool.not_eq_true'] at h
      obtain ⟨⟨⟨⟨h1, h2⟩, h3⟩, h4⟩, h5⟩ := h
      cases hc : isComp c with
      | false => exact PS.setV g.s h3 h1 h2 hc h5
      | true =>
        rw [hc] at h4
        simp only [Bool.not_true, Bool.false_or, Bool.and_eq_true, decide_eq_true_eq] at h4
        exact PS.setCV g.s h3 h1 h4.2 hc h4.1 h5
    · cases h⟩
  | .setT is c => ⟨fun {X sc W st} g h => by
    unfold chkS at h
    split at h
    · rename_i e _
      simp only [Bool.and_eq_true] at h
      obtain ⟨⟨⟨h1, h2⟩, h3⟩, h4⟩ := h
      exact PS.setTV g.s (all_not h2) h1 h4 fun xs k q z => by subst z; cases h3
    · cases h⟩
  | .aug i op c => ⟨fun {X sc W st} g h => by
    unfold chkS at h
    split at h
    · simp only [Bool.and_eq_true, decide_eq_true_eq, Bool.not_eq_true'] at h
      obtain ⟨⟨⟨⟨⟨h1, h2⟩, h3⟩, h4⟩, h6⟩, h5⟩ := h
      subst h6
      exact PS.augV g.s h4 h3 h1 h2 h5
    · cases h⟩
  | .setIx i k c => ⟨fun {X sc W st} g h => by
    unfold chkS at h
    split at h
    · simp only [Bool.and_eq_true] at h
      exact PS.setIxV g.s h.1.1 h.1.2 h.2
    · cases h⟩
  | .setK i k c => ⟨fun {X sc W st} g h => by
    unfold chkS at h
    split at h
    · simp only [Bool.and_eq_true] at h
      exact PS.setKV (by have := g.s.g.hu; omega) g.s h.1.1 h.1.2 h.2
    · cases h⟩
  | .augIx i k op c => ⟨fun {X sc W st} g h => by
    unfold chkS at h
    split at h
    · simp only [Bool.and_eq_true, decide_eq_true_eq] at h
      obtain ⟨⟨⟨⟨h1, h2⟩, h3⟩, h4⟩, h5⟩ := h
      subst h2
      exact PS.augIxV g.s h1 h3 h4 h5
    · cases h⟩
  | .app i c => ⟨fun {X sc W st} g h => by
    unfold chkS at h
    split at h
    · simp only [Bool.and_eq_true, decide_eq_true_eq] at h
      obtain ⟨⟨⟨h1, h2⟩, h3⟩, h4⟩ := h
      subst h1
      exact PS.appV g.s h3 h2 h4
    · cases h⟩
  | .expr c => ⟨fun {X sc W st} g h => by
    unfold chkS at h
    split at h
    · simp only [Bool.and_eq_true, Bool.not_eq_true'] at h
      exact PS.exprV g.s h.1 h.2
    · cases h⟩
  | .ret c => ⟨fun {X sc W st} g h => by
    unfold chkS at h
    split at h
    · exact PS.retV g.s h
    · cases h⟩
  | .retN => ⟨fun {X sc W st} g h => by
    unfold chkS at h
    split at h
    · exact PS.retNV
    · cases h⟩
  | .ife t a b => ⟨fun {X sc W st} g h => by
    unfold chkS at h
    split at h
    · simp only [Bool.and_eq_true] at h
      exact PS.ifV ((snd t).run g.s.g h.1.1 0).2 ((stdL a).run g h.1.2) ((stdL b).run g h.2)
    · cases h⟩
  | .forR i as body => ⟨fun {X sc W st} g h => by
    unfold chkS at h
    split at h
    · simp only [Bool.and_eq_true, decide_eq_true_eq, Bool.not_eq_true'] at h
      obtain ⟨⟨⟨⟨⟨⟨h1, h2⟩, h3⟩, h4⟩, h5⟩, h6⟩, h7⟩ := h
      subst h1
      exact PS.forRV g.s h2 h3 h4 h5 h6 ((stdL body).run g h7)
    · cases h⟩
  | .forL tup is c body => ⟨fun {X sc W st} g h => by
    unfold chkS at h
    split at h
    · simp only [Bool.and_eq_true] at h
      obtain ⟨⟨⟨h1, h2⟩, h3⟩, h4⟩ := h
      exact PS.forLV g.s (all_not h1) h2 h3 ((stdL body).run g h4)
    · cases h⟩
  | .raise k c => ⟨fun {X sc W st} g h => by
    unfold chkS at h
    split at h
    · simp only [Bool.and_eq_true, decide_eq_true_eq] at h
      obtain ⟨⟨⟨⟨h1, h2⟩, h3⟩, h4⟩, h5⟩ := h
      exact PS.raiseV g h1 h2 h3 h4 h5
    · cases h⟩
  | .tri body hs => ⟨fun {X sc W st} g h => by
    unfold chkS at h
    split at h
    · simp only [Bool.and_eq_true] at h
      obtain ⟨⟨h1, h2⟩, h3⟩ := h
      exact PS.tryV g (fun q hq => List.all_eq_true.mp h1 q hq) h2 fun W' pn xe g' => (stdL body).run g' h3
    · cases h⟩
  | .whl t body => ⟨fun {X sc W st} g h => by
    unfold chkS at h
    split at h
    · rw [Bool.and_eq_true] at h
      exact PS.whlV g.s ((snd t).run g.s.g h.1 0).2 ((stdL body).run g h.2)
    · cases h⟩
  | .brk => ⟨fun {X sc W st} g h => by
    unfold chkS at h
    split at h
    · exact PS.brkV
    · cases h⟩
  | .cnt => ⟨fun {X sc W st} g h => by
    unfold chkS at h
    split at h
    · exact PS.cntV
    · cases h⟩
  | .pass => ⟨fun {X sc W st} g h => by
    unfold chkS at h
    split at h
    · exact PS.passV
    · cases h⟩
  | .setF i f c => ⟨fun {X sc W st} g h => by
    unfold chkS at h
    split at h
    · simp only [Bool.and_eq_true, decide_eq_true_eq] at h
      obtain ⟨⟨h1, h2⟩, h3⟩ := h
      subst h1
      exact PS.setFV g.s h2 h3
    · cases h⟩
  | .insr _ _ _ => ⟨fun {X sc W st} g h => by unfold chkS at h; cases h⟩
  | .hole => ⟨fun {X sc W st} g h => by unfold chkS at h; cases h⟩
theorem stdL : ∀ s : List Sm, StdL P Γ C T lev fx s
  | [] => ⟨fun {X sc W st} g h => by
    cases st with
    | nil => exact PSs.nilV
    | cons _ _ => simp [chkSs] at h⟩
  | s :: r => ⟨fun {X sc W st} g h => by
    cases st with
    | nil => simp [chkSs] at h
    | cons st rest =>
      simp only [chkSs, Bool.and_eq_true] at h
      exact PSs.consV ((std s).run g h.1) ((stdL r).run g h.2)⟩
end
end
/-! ### defs -/
section
variable {P : Pg} {Γ : Ga} {C : Nat → Addr} {T : Tx} {ρ : En} {w : Wh} {H : Hp} {σ : L2.St}
def fxOf (io : List Bool) : Nat → Bool := fun j => io.getD j false
theorem outsL_get : ∀ {io : List Bool} {j0 : Nat} {outs : List (Nat × (D × Md))}, outsL ρ j0 io = some outs → ∀ j o, outs.lookup j = some o → slot ρ j = some o ∧ j0 ≤ j ∧ io[j - j0]? = some true
  | [], j0, outs, h, j, o, q => by cases h; cases q
  | true :: bs, j0, outs, h, j, o, q => by
    unfold outsL at h
    cases h1 : slot ρ j0 with
    | none => rw [h1] at h; cases h
    | some x =>
      rw [h1] at h
      cases h2 : outsL ρ (j0 + 1) bs with
      | none => simp [h2] at h
      | some os =>
        simp [h2] at h
        subst h
        rw [List.lookup_cons] at q
        cases z : j == j0 with
        | true =>
          rw [z] at q
          cases q
          rw [beq_iff_eq.mp z]
          exact ⟨h1, Nat.le_refl _, by simp⟩
        | false =>
          rw [z] at q
          obtain ⟨e1, e2, e3⟩ := outsL_get h2 j o q
          have : j - j0 = (j - (j0 + 1)) + 1 := by omega
          exact ⟨e1, by omega, by rw [this]; simpa using e3⟩
  | false :: bs, j0, outs, h, j, o, q => by
    unfold outsL at h
    obtain ⟨e1, e2, e3⟩ := outsL_get h j o q
    have : j - j0 = (j - (j0 + 1)) + 1 := by omega
    exact ⟨e1, by omega, by rw [this]; simpa using e3⟩
theorem start_get {N : List Str} {vs : List V} {j : Nat} {v : V} (h : vs[j]? = some v) : (start N vs)[j]? = some (some v) := by
  unfold L2.start
  have hj : j < vs.length := (List.getElem?_eq_some_iff.mp h).1
  rw [List.getElem?_append_left (by simpa using hj), List.getElem?_map, h]
  rfl
/-- the slots at a def's start -/
theorem start_ok {N : List Str} {vs : List V} {ds : List (D × Md)} (nt : Neat w H) (i : Ins C w H vs ds) (hl : vs.length ≤ N.length) : Ok C w H (ds.map some ++ List.replicate (N.length - ds.length) none) (start N vs) := by
  refine ⟨?_, fun j d m e => ?_, nt.1, nt.2⟩
  · unfold L2.start
    rw [List.length_append, List.length_append, List.length_map, List.length_map, List.length_replicate, List.length_replicate, i.1]
  · have hj : j < ds.length := by
      by_cases hj : j < ds.length
      · exact hj
      · rw [List.getElem?_append_right (by simpa using hj), List.getElem?_replicate] at e
        split at e <;> cases e
    rw [List.getElem?_append_left (by simpa using hj), List.getElem?_map] at e
    cases q : ds[j]? with
    | none => rw [q] at e; cases e
    | some x =>
      rw [q] at e
      cases e
      obtain ⟨v, hv, hr⟩ := i.2 j _ q
      exact ⟨v, start_get hv, hr⟩
/-- a def's body meets its promise -/
theorem body_meets {N : List Str} {vs : List V} {Q : VK} {E : XK} {io : List Bool} {body : List Sm} (hl : io.length ≤ N.length) (h : spF C (runF P Γ io N.length body) vs H Q E) :
    tSs P Γ C (fun cls d _ H => E cls d H) (fxOf io) body { nx := fun _ H' => Q .non H', rt := Q } (start N vs) H := by
  obtain ⟨w, ds, nt, ins, f⟩ := h
  unfold runF at f
  cases hz : decide (ds.length = io.length) with
  | false =>
    have hz := of_decide_eq_false hz
    rw [if_neg hz] at f
    exact f.elim
  | true =>
    have hz := of_decide_eq_true hz
    rw [if_pos hz] at f
    have hle : vs.length ≤ N.length := by rw [← ins.1, hz]; exact hl
    refine ⟨w, _, start_ok nt ins hle, ?_⟩
    have outs_ok : ∀ {ρ1 : En} {os : List (Nat × (D × Md))} {σ' : L2.St} {w' : Wh} {H' : Hp}, outsL ρ1 0 io = some os → Fx (fxOf io) (start N vs) σ' → Ok C w' H' ρ1 σ' → Outs C w' H' vs os := fun {ρ1 os σ' w' H'} ho fs k j o q => by
      obtain ⟨e1, _, e3⟩ := outsL_get ho j o q
      obtain ⟨v, hv, hr⟩ := k.rep j o.1 o.2 (slot_some e1)
      have e3 : io[j]? = some true := by simpa using e3
      have hj : fxOf io j = true := by unfold fxOf; rw [List.getD_eq_getElem?_getD, e3]; rfl
      rw [fs j hj] at hv
      have hjl : j < vs.length := by rw [← ins.1, hz]; exact (List.getElem?_eq_some_iff.mp e3).1
      rw [start_get (List.getElem?_eq_getElem hjl)] at hv
      cases hv
      exact ⟨_, List.getElem?_eq_getElem hjl, hr⟩
    cases hr : exSs P Γ body (ds.map some ++ List.replicate (N.length - ds.length) none) with
    | nx ρ1 =>
      rw [hr] at f
      unfold endF at f
      dsimp only at f
      cases ho : outsL ρ1 0 io with
      | none => rw [ho] at f; exact f.elim
      | some os =>
        rw [ho] at f
        exact fun σ' w' H' ev fs k => f .non w' H' ev ⟨k.nn, k.tp⟩ rfl (outs_ok ho fs k)
    | ret x ρ1 =>
      rw [hr] at f
      unfold endF at f
      dsimp only at f
      cases ho : outsL ρ1 0 io with
      | none => rw [ho] at f; exact f.elim
      | some os =>
        rw [ho] at f
        exact fun v σ' w' H' ev fs k r => f v w' H' ev ⟨k.nn, k.tp⟩ r (outs_ok ho fs k)
    | exc c fs ρ1 =>
      rw [hr] at f
      exact fun dx fv σ' w' H' ev _ k hx r => f dx fv w' H' ev ⟨k.nn, k.tp⟩ hx r
    | brk ρ1 => rw [hr] at f; exact f.elim
    | cnt ρ1 => rw [hr] at f; exact f.elim
    | bad => rw [hr] at f; exact f.elim
end
end VS

set_option Elab.async false
set_option linter.all false
set_option maxRecDepth 100000
/-! VY: a program's defs, at all depths. -/
namespace VS
open PySem PySem.Spec PyProof.Rows L2
/-- what is known of one def -/
structure DefOk (P : Pg) (T : Tx) (K : PySem.W.Frag) (mg : Str → Option Value) (nm : Str) (F : Fn) : Prop where
  ex : ∃ (a : Addr) (fd : FuncData) (ps N : List Str) (st : Stmt), mg nm = some (.ref a) ∧ PySem.W.keepIn K (.ref a) = true ∧ Binds K fd ps [] ∧ Fun K nm nm st a fd ∧ FnScope N ps (defScope st) ∧ F.io.length = ps.length ∧ F.many = N.length ∧ F.io.length ≤ N.length ∧
    chkSs T P N (defScope st) (fxOf F.io) F.body (defBody st) = true
structure Prog (P : Pg) (F : Nat → Fn) (C : Nat → Addr) (T : Tx) (K : PySem.W.Frag) (mg : Str → Option Value) : Prop where
  blt : ∀ x ∈ bnames, mg x = none
  fld : ∀ c f, P.fo c f = true → Cls K (C c) ∧ NoAttr K (C c) f
  fns : ∀ f, T.fk f = true → DefOk P T K mg (T.fnm f) (F f)
  er : Errs P T C K mg
  mks : ∀ c, T.mc c = true → ∃ (fI : Addr) (fd : FuncData) (ps N : List Str) (st : Stmt) (nm qn : Str), Mk K (C c) fI ∧ mg (T.cnm c) = some (.ref (C c)) ∧ Binds K fd ps [] ∧ Fun K nm qn st fI fd ∧ FnScope N ps (defScope st) ∧ (F (P.ini c)).io.length = ps.length ∧ (F (P.ini c)).many = N.length ∧ (F (P.ini c)).io.length ≤ N.length ∧
    chkSs T P N (defScope st) (fxOf (F (P.ini c)).io) (F (P.ini c)).body (defBody st) = true
  mts : ∀ c m f, P.mth c m = some f → ∃ (fa : Addr) (fd : FuncData) (ps N : List Str) (st : Stmt) (nm qn : Str), Cls K (C c) ∧ Meth K (C c) m fa ∧ Binds K fd ps [] ∧ Fun K nm qn st fa fd ∧ FnScope N ps (defScope st) ∧ (F f).io.length = ps.length ∧ (F f).many = N.length ∧ (F f).io.length ≤ N.length ∧
    chkSs T P N (defScope st) (fxOf (F f).io) (F f).body (defBody st) = true
/-- what is known of the defs called, at one depth -/
structure Known (P : Pg) (Γ : Ga) (C : Nat → Addr) (T : Tx) (K : PySem.W.Frag) (mg : Str → Option Value) (prog : Program) (w : World) (base : Heap) (lev : Nat) : Prop where
  fns : ∀ f : Nat, T.fk f = true → ∃ (a : Addr) (fd : FuncData) (ps : List Str), mg (T.fnm f) = some (.ref a) ∧ PySem.W.keepIn K (.ref a) = true ∧ Binds K fd ps [] ∧ FnOk prog w K mg base (L2.CX prog w) lev a fd ps (spF C (Γ f))
  mks : ∀ c : Nat, T.mc c = true → ∃ (fI : Addr) (fd : FuncData) (ps : List Str), Mk K (C c) fI ∧ mg (T.cnm c) = some (.ref (C c)) ∧ Binds K fd ps [] ∧ FnOk prog w K mg base (L2.CX prog w) lev fI fd ps (spF C (Γ (P.ini c)))
  mts : ∀ c m f, P.mth c m = some f → ∃ (fa : Addr) (fd : FuncData) (ps : List Str), Cls K (C c) ∧ Meth K (C c) m fa ∧ Binds K fd ps [] ∧ FnOk prog w K mg base (L2.CX prog w) lev fa fd ps (spF C (Γ f))
theorem Prog.at {P : Pg} {F : Nat → Fn} {C : Nat → Addr} {T : Tx} {K : PySem.W.Frag} {mg : Str → Option Value} (h : Prog P F C T K mg) (prog : Program) (w : World) (base : Heap) (n : Nat)
    (ih : Known P (run P F n) C T K mg prog w base (2 * n))
    {nm qn : Str} {F1 : Fn} {a : Addr} {fd : FuncData} {ps N : List Str} {st : Stmt} (h4 : Fun K nm qn st a fd) (h5 : FnScope N ps (defScope st)) (h6 : F1.io.length = ps.length) (h7 : F1.many = N.length) (h8 : F1.io.length ≤ N.length)
    (h9 : chkSs T P N (defScope st) (fxOf F1.io) F1.body (defBody st) = true) : FnOk prog w K mg base (L2.CX prog w) (2 * n + 1 + 1) a fd ps (spF C (runF P (run P F n) F1.io F1.many F1.body)) := by
  refine h4.okX h5 (fun vs H Q E q => ?_) (fun cdv A outer s H vs Q E hr q => ⟨tSs P (run P F n) C (fun cls d _ H => E cls d H) (fxOf F1.io) F1.body, ?_, ?_⟩)
  · obtain ⟨w, ds, _, i, z⟩ := q
    unfold runF at z
    split at z
    · rename_i hl
      rw [← i.1, hl, h6]
    · exact z.elim
  · have tk : Takes (cxOf (L2.CX prog w) prog w K mg base N qn (defScope st) a cdv A outer s H E) (fun cls d _ H => E cls d H) := takes_of rfl rfl rfl rfl
    refine (stdL F1.body).run (P := P) (Γ := run P F n) (C := C) (T := T) (lev := 2 * n) (sc := defScope st) { s := { g := { nd := h5.nd, sc := rfl, calm := rfl, room := hr, pass := fun σ => passAt tk σ, blt := h.blt, fld := h.fld, mks := ih.mks, mts := ih.mts, fns := ih.fns }, own := passes_of rfl, lo := fun x hx => ⟨loc_ok hx, .inl rfl⟩ }, tk := tk, st := rfl, fr := rfl, er := h.er } h9
  · refine body_meets (by exact h8) ?_
    rw [← h7]
    exact q
theorem spF_bad {C : Nat → Addr} {vs : List V} {H : Hp} {Q : VK} {E : XK} (q : spF C (fun _ => Rf.bad) vs H Q E) : False := by
  obtain ⟨w, ds, _, _, z⟩ := q
  exact z
theorem Prog.ok {P : Pg} {F : Nat → Fn} {C : Nat → Addr} {T : Tx} {K : PySem.W.Frag} {mg : Str → Option Value} (h : Prog P F C T K mg) (prog : Program) (w : World) (base : Heap) : ∀ n : Nat, Known P (run P F n) C T K mg prog w base (2 * n)
  | 0 => by
    refine ⟨fun f hf => ?_, fun c hc => ?_, fun c m f hc => ?_⟩
    · obtain ⟨a, fd, ps, N, st, h1, h2, h3, h4, h5, h6, h7, h8, h9⟩ := (h.fns f hf).ex
      exact ⟨a, fd, ps, h1, h2, h3, ⟨fun vs H Q E q => (spF_bad q).elim, fun A outer s H args us vs Q E _ _ _ _ q => (spF_bad q).elim⟩⟩
    · obtain ⟨a, fd, ps, N, st, nm, qn, h1, h2, h3, h4, h5, h6, h7, h8, h9⟩ := h.mks c hc
      exact ⟨a, fd, ps, h1, h2, h3, ⟨fun vs H Q E q => (spF_bad q).elim, fun A outer s H args us vs Q E _ _ _ _ q => (spF_bad q).elim⟩⟩
    · obtain ⟨a, fd, ps, N, st, nm, qn, h1, h2, h3, h4, h5, h6, h7, h8, h9⟩ := h.mts c m f hc
      exact ⟨a, fd, ps, h1, h2, h3, ⟨fun vs H Q E q => (spF_bad q).elim, fun A outer s H args us vs Q E _ _ _ _ q => (spF_bad q).elim⟩⟩
  | n + 1 => by
    refine ⟨fun f hf => ?_, fun c hc => ?_, fun c m f hc => ?_⟩
    · obtain ⟨a, fd, ps, N, st, h1, h2, h3, h4, h5, h6, h7, h8, h9⟩ := (h.fns f hf).ex
      exact ⟨a, fd, ps, h1, h2, h3, h.at prog w base n (h.ok prog w base n) h4 h5 h6 h7 h8 h9⟩
    · obtain ⟨a, fd, ps, N, st, nm, qn, h1, h2, h3, h4, h5, h6, h7, h8, h9⟩ := h.mks c hc
      exact ⟨a, fd, ps, h1, h2, h3, h.at prog w base n (h.ok prog w base n) h4 h5 h6 h7 h8 h9⟩
    · obtain ⟨a, fd, ps, N, st, nm, qn, h1, h2, h3, h4, h5, h6, h7, h8, h9⟩ := h.mts c m f hc
      exact ⟨a, fd, ps, h1, h2, h3, h.at prog w base n (h.ok prog w base n) h4 h5 h6 h7 h8 h9⟩
/-- a def of the text -/
theorem defOk_of {P : Pg} {T : Tx} {K : PySem.W.Frag} {mg : Str → Option Value} {h : Heap} {nm : Str} {F : Fn} {a : Addr} {st : Stmt} {oc : Value} {od an : Option Addr} {osl : Array (Option Value)} {kV doc pm cdv ct : Value} {ps N : List Str} (X : K.In h) (G : h.Ns mainGlobals mg)
    (n : PySem.W.nsIn K mainGlobals nm = some (some (.ref a))) (l : K.lookup a = some ⟨oc, od, .func (PySem.W.fnOf nm nm (defArgs st) (defBody st) (defScope st) .none kV doc pm an cdv ct), osl⟩) (c : PySem.W.codeIn K cdv nm = true) (k : PySem.W.keepIn K (.ref a) = true)
    (S : FnScope N ps (defScope st)) (b : ∀ (kV doc pm : Value) (an : Option Addr) (cdv ct : Value) (us : List Value), us.length = ps.length → bindArgs (PySem.W.fnOf nm nm (defArgs st) (defBody st) (defScope st) .none kV doc pm an cdv ct) ⟨us, []⟩ = pure (ps.zip us))
    (h6 : F.io.length = ps.length) (h7 : F.many = N.length) (h8 : F.io.length ≤ N.length) (h9 : chkSs T P N (defScope st) (fxOf F.io) F.body (defBody st) = true) : DefOk P T K mg nm F :=
  have f := fun_mk (st := st) l c k
  ⟨a, _, ps, N, st, PySem.W.mg_of X G n, k, f.binds b, f, S, h6, h7, h8, h9⟩
/-! ### the law -/
/-- the law's promise: the script is an unchanged list of ints -/
def spLaw (m : Nat) : Sp := fun vs H Q _ => ∃ (a : Addr) (ns : List Int), vs = [.ref a] ∧ (∃ o, H a = some (.frz o (.lst (ns.map V.int)))) ∧ ns.length ≤ m ∧ Only H ∧ ∀ H', Q (.bl true) H'
theorem law_imp {C : Nat → Addr} {g : List (D × Md) → Rf} {m : Nat} (h : ∀ ns : List Int, ns.length ≤ m → g [(.lst (ns.map .int), .fz)] = .ok (.bl true, .dp) []) (vs : List V) (H : Hp) (Q : VK) (E : XK) (q : spLaw m vs H Q E) : spF C g vs H Q E := by
  obtain ⟨a, ns, rfl, ⟨o, hH⟩, hl, only, k⟩ := q
  refine ⟨fun b => if b = a then .fz else .no, [(.lst (ns.map .int), .fz)], ⟨fun b hb => ?_, fun b us hb => ?_⟩, ⟨rfl, fun j d hj => ?_⟩, ?_⟩
  · exact if_neg (fun z => by rw [z, hH] at hb; cases hb)
  · rcases only b with z | ⟨o, xs, z⟩ <;> rw [z] at hb <;> cases hb
  · cases j with
    | zero =>
      cases hj
      refine ⟨_, rfl, a, ns.map V.int, rfl, if_pos rfl, .inr ⟨rfl, o, hH⟩, ?_⟩
      clear hl hH
      induction ns with
      | nil => rfl
      | cons n r ih => exact ⟨.int n, r.map V.int, rfl, rfl, ih⟩
    | succ j => cases hj
  · rw [h ns hl]
    intro v w' H' _ _ r _
    rw [show v = .bl true from r]
    exact k H'
theorem law_sp {K : PySem.W.Frag} {m : Nat} (hK : (K.all fun p => !(p.2.cls == Value.type "list")) = true) (H : Hp) (a : Addr) (ns : List Int) (hl : ns.length ≤ m) (only : Only H) (hS : SqL K H a (ns.map V.int)) : spLaw m [.ref a] H (fun v _ => v = .bl true) fun _ _ _ => False := by
  refine ⟨a, ns, rfl, ?_, hl, only, fun _ => rfl⟩
  rcases hS with (h | h) | ⟨o, its, n, h1, h2, _⟩
  · rcases only a with z | ⟨o, xs, z⟩ <;> rw [z] at h <;> cases h
  · exact h
  · have look : ∀ {K : List (Addr × Obj)}, K.lookup a = some o → (a, o) ∈ K := fun {K} => by
      induction K with
      | nil => intro z; cases z
      | cons p r ih =>
        intro z
        rw [List.lookup_cons] at z
        cases q : a == p.1 with
        | true => rw [q] at z; cases z; rw [beq_iff_eq.mp q]; exact List.mem_cons_self
        | false => rw [q] at z; exact List.mem_cons_of_mem _ (ih z)
    have q := List.all_eq_true.mp hK _ (look h1)
    rw [h2] at q
    simp at q
theorem cx_none {prog : Program} {w : World} {H : Hp} {s : Shared} {e : Value} {s' : Shared} (h : L2.CX prog w [] H s (fun _ _ _ => False) e s') : False := by
  unfold L2.CX at h
  grind
end VS

set_option Elab.async false
set_option linter.all false
set_option maxRecDepth 100000
set_option maxHeartbeats 2000000

namespace PySem
namespace Err_what
open PySem.W PySem.Calls PyProof.Rows PySem.HandSPX
def iA (p1 p2 : Pos) : Arguments := { posonlyargs := [], args := [{ arg := "self", annotation := none, pos := p1 }, { arg := "what", annotation := none, pos := p2 }], vararg := none, kwonlyargs := [], kw_defaults := [], kwarg := none, defaults := [] }
def iB (q1 q2 q3 q4 : Pos) : List Stmt := [.Assign [.Attribute (.Name "self" q1) "what" q2] (.Name "what" q3) q4]
def iS : Scope := { kind := .function, names := [(PySem.Str.ofString "self", .local), (PySem.Str.ofString "what", .local)], isGenerator := false, isCoroutine := false, more := [] }
/-- what the written part says of such a class, at C, and of its maker, at fI -/
structure Txt (K : Frag) (mg : Str → Option Value) (C fI : Addr) (cn qn : Str) : Prop where
  gC : mg cn = some (.ref C)
  cls : ∃ nm q N bs bm sn sub ab col dd k0 k1 k2 k3 k5, K.lookup C = some (excClassObj nm q C N bs bm true sn sub ab col dd k0 k1 k2 k3 k5 "ValueError.__new__") ∧ refsVE bm = true
  sa : findIn K (.ref C) "__setattr__" = some (some (.builtin "object.__setattr__"))
  ga : findIn K (.ref C) "__getattribute__" = some (some (.builtin "BaseException.__getattribute__"))
  gg : findIn K (.ref C) "__getattr__" = some none
  noN : findIn K (.ref C) "what" = some none
  iC : findIn K (.ref C) "__init__" = some (some (.ref fI))
  tC : typeIn K (.ref fI) = some (.type "function")
  kC : keepIn K (.ref C) = true
  exC : subIn K (.ref C) (.type "BaseException") = some true
  tyC : typeIn K (.ref C) = some (.type "type")
  hdC : hasDictIn K C = true
  fn : ∃ (oc : Value) (od : Option Addr) (doc pm : Value) (an : Option Addr) (cdv ct : Value) (osl : Array (Option Value)) (p1 p2 q1 q2 q3 q4 : Pos),
    K.lookup fI = some ⟨oc, od, .func (fnOf "__init__" qn (iA p1 p2) (iB q1 q2 q3 q4) iS .none .none doc pm an cdv ct), osl⟩ ∧ codeIn K cdv qn = true
theorem one_size (v : Value) : [v].length ≤ sizeLine := by
  rw [sizeLine_eq]
  exact (by decide : 1 ≤ 16777216)
theorem ldC {M : Model} {s : Shared} {name : Str} {scope : Scope} {L a : Addr} {cd : Value} {m : Str → Option Value} {x : Str} {pos : Pos} {v : Value} {Q : Value → Shared → Prop} {A : Around} {E : Value → Shared → Prop} (hn : s.heap.Ns L m) (hv : m x = some v) (h : Q v s)
    (hk : scope.kind = .function := by rfl) (hl : (envOfC name scope L a cd).kindOf x = some .local := by rfl) (hd : (x == ("__debug__" : Str)) = false := by decide) :
    wpAny M A (eval (.Name x pos) (envOfC name scope L a cd)) Q E s := wpAny_Name (wpAny_loadName_local hk hl hn hv h) hd
/-- what the maker leaves of a fresh exception at x -/
structure InitEnd (h h' : Heap) (x C dx t1 : Addr) (v : Value) : Prop where
  keep : ∀ b o, b ≠ x → h.get? b = some o → h'.get? b = some o
  obj : h'.get? x = some { cls := .ref C, dict := some dx, data := .fields #[.ref t1, .none, .none, .none, .bool false, .none] }
  dbig : h.objs.size ≤ dx
  dne : dx ≠ x
  ns : h'.Ns1 dx (fun y => if y = "what" then some v else none)
/-- a made error -/
structure OwnMade (h h' : Heap) (e C d : Addr) (v : Value) : Prop where
  keep : ∀ b o, h.get? b = some o → h'.get? b = some o
  new : h.objs.size ≤ e
  obj : ∃ oe vs, h'.get? e = some oe ∧ oe.cls = .ref C ∧ oe.dict = some d ∧ oe.data = .fields vs ∧ vs[1]? = some .none
  dbig : h.objs.size ≤ d
  dne : d ≠ e
  ns : h'.Ns1 d (fun y => if y = "what" then some v else none)
section
variable {prog : Program} {w : World} {A : Around} {E : Value → Shared → Prop} {R : Result → Shared → Prop} {s : Shared} {K : Frag} {mg : Str → Option Value} {C fI : Addr} {cn qn : Str}
theorem low_init (T : Txt K mg C fI cn qn) {x t0 : Addr} {v : Value} (X : K.In s.heap) (hlim : s.heap.NoLimit) (hx : s.heap.get? x = some (excO C t0)) (hnx : K.lookup x = none) (hroom : A.depth < recursionLimit)
    (hq : ∀ h' tk dx, InitEnd s.heap h' x C dx t0 v → R (.ok (.ret .none)) { s with heap := h', toks := tk }) :
    codeAny (model prog w) A (.call (.ref fI) ⟨[.ref x, v], []⟩) R s := by
  obtain ⟨oc, od, doc, pm, an, cdv, ct, osl, p1, p2, q1, q2, q3, q4, ho, hcd⟩ := T.fn
  obtain ⟨nm, q, N, bs, bm, sn, sub, ab, col, dd, k0, k1, k2, k3, k5, hC, hbm⟩ := T.cls
  have hcl : clsIn K C = some { name := nm, bases := bs, mro := .ref C :: bm, ns := N, qualname := q, hasDict := true, slotNames := sn, subclasses := sub, abstract := ab, collection := col, hasDel := false } := by unfold clsIn; rw [hC] <;> rfl
  refine Att.call_fn (binds := [("self", .ref x), ("what", v)]) X hlim ho hcd hroom (BindsTo.of_eq (by first | rfl | with_unfolding_all rfl)) (by first | rfl | decide | with_unfolding_all rfl) (fun s₁ IC => ?_) rfl rfl rfl
  obtain ⟨h₁, tk₁, rfl⟩ := IC.toInCall.same
  have k : ∀ b o, s.heap.get? b = some o → h₁.get? b = some o := IC.toInCall.keep
  have hn := IC.toInCall.ns
  have hxL : s.heap.objs.size ≠ x := Nat.ne_of_gt (Heap.lt_size hx)
  have X₁ : K.In h₁ := X.keeps k
  have hx₁ := k _ _ hx
  show wpAny _ _ (execs _ _) _ _ _
  refine wpAny_execs_cons (plainObj_wpAny_Assign_Attribute ?_)
  refine ldC (v := v) hn (by first | rfl | with_unfolding_all rfl | kernel_rfl) (ldC (v := .ref x) hn (by first | rfl | with_unfolding_all rfl | kernel_rfl) ?_)
  refine set_plain X₁ (ox := excO C t0) (od := none) ⟨hx₁, rfl, rfl, trivial⟩ T.sa ?_
  refine exc_osa X₁ hx₁ hcl (show refsVE (.ref C :: bm) = true from hbm) rfl T.noN (fun h₃ tk₃ dx k₃ dn dne hx₃ hn₃ => ?_)
  show wpAny _ _ (execs _ _) _ _ _
  have z : s.heap.objs.size < h₁.objs.size := hn.lt
  exact wpAny_execs_nil (hq h₃ tk₃ dx ⟨fun b o hb e => k₃ b o hb (k b o e), hx₃, Nat.le_of_lt (Nat.lt_of_lt_of_le z dn), dne, hn₃⟩)
theorem low_made (T : Txt K mg C fI cn qn) {v : Value} (X : K.In s.heap) (hlim : s.heap.NoLimit) (hroom : A.depth + 1 < recursionLimit)
    (hq : ∀ h' tk e d, OwnMade s.heap h' e C d v → R (.ok (.ret (.ref e))) { s with heap := h', toks := tk }) :
    codeAny (model prog w) A (.call (.ref C) ⟨[v], []⟩) R s := by
  obtain ⟨nm, q, N, bs, bm, sn, sub, ab, col, dd, k0, k1, k2, k3, k5, hC, hbm⟩ := T.cls
  obtain ⟨hp, g, dr, tk, os⟩ := s
  have k : ∀ b o, hp.get? b = some o → ((hp.push (kdv_tup [v])).push (excO C hp.objs.size)).get? b = some o := fun b o e => Heap.get?_push_of_some _ (Heap.get?_push_of_some _ e)
  have hget : ((hp.push (kdv_tup [v])).push (excO C hp.objs.size)).get? (hp.objs.size + 1) = some (excO C hp.objs.size) := by heap_get
  have hnx : K.lookup (hp.objs.size + 1) = none := by
    cases e : K.lookup (hp.objs.size + 1) with
    | none => rfl
    | some o =>
      have z : hp.get? (hp.objs.size + 1) = some o := X _ _ e
      exact absurd (Nat.lt_of_succ_lt (Heap.lt_size z)) (Nat.lt_irrefl _)
  refine call_own F.excBase_ValueError (fun X => refsVE_contains X bm hbm) (X _ _ hC) (looks_findIn X T.iC) (fun self => bind_fn X self T.tC) (one_size v) ?_
  refine low_init (s := ⟨(hp.push (kdv_tup [v])).push (excO C hp.objs.size), g, dr, tk, os⟩) T (X.keeps k) (hlim.keeps k) hget hnx ?_ fun h' tk' dx ⟨k', hx, dn, dne, hns⟩ => ?_
  · show A.depth + 1 < recursionLimit
    exact hroom
  · have old : ∀ b o, hp.get? b = some o → h'.get? b = some o := fun b o e => k' b o (Nat.ne_of_lt (Nat.lt_succ_of_lt (Heap.lt_size e))) (k b o e)
    have z : hp.objs.size + 1 + 1 ≤ dx := by
      first
        | (simpa only [Heap.size_push] using dn)
        | exact dn
        | (have q := dn; rw [Heap.size_push, Heap.size_push] at q; exact q)
    exact ⟨rfl, hq h' tk' (hp.objs.size + 1) dx ⟨old, Nat.le_succ _, ⟨_, _, hx, rfl, rfl, rfl, rfl⟩, Nat.le_trans (Nat.le_trans (Nat.le_succ _) (Nat.le_succ _)) z, dne, hns⟩⟩
end
end Err_what
end PySem
namespace L2
open PySem PySem.Spec PyProof.Rows
theorem relO_what {v : V} {v' : Value} (r : RelV v v') (f : Str) : RelO (List.lookup f [(("what" : Str), v)]) (if f = "what" then some v' else none) := by
  by_cases hw : f = "what"
  · subst hw
    rw [if_pos rfl]
    have q : List.lookup ("what" : Str) [(("what" : Str), v)] = some v := by simp [List.lookup]
    rw [q]
    exact r
  · rw [if_neg hw]
    have qw : (f == ("what" : Str)) = false := by simpa using hw
    have q2 : List.lookup f [(("what" : Str), v)] = none := by simp [List.lookup, qw]
    rw [q2]
    trivial
section
variable {X : Cx} {C fI : Addr} {cn qn : Str}
theorem pmk_what {a : Expr} {ta : TA} {p pos : Pos} {k : Nat} (T : PySem.Err_what.Txt X.K X.mg C fI cn qn) (hr : Room k X.A) (ha : PA X [a] ta) (hg : Gl X cn) (hdb : (cn == ("__debug__" : Str)) = false)
    (he : starEach (a :: []) X.env = (false, eval a X.env) :: starEach [] X.env) (hpl : (backTo pos (starEach [] X.env)).any (·.1) = false := by rfl) :
    PMk X (.Call (.Name cn p) [a] [] pos) (VS.tMkF C "what" ta) := by
  intro pins s σ H Q I h
  refine wpAny_Call_Name_kw (ld_glob I hg T.gC ?_ hdb)
  refine PySem.W.callWith_K (h₀ := X.base) I.ok.mod.kin T.kC (thn (ha.run pos pins s σ H _ I h) fun us s1 hh => ?_) he hpl
  obtain ⟨vs, H1, I1, r1, v, ev, q1⟩ := hh
  subst ev
  refine ⟨I1.kIn, ?_⟩
  cases r1 with
  | cons rv rn =>
    rename_i v' us'
    cases rn
    show wpAny _ _ (call (.ref C) [v']) _ _ _
    have hlim := I1.nolimit
    obtain ⟨hp, g, dr, tk, os⟩ := s1
    refine wpAny_call (PySem.Err_what.low_made T I1.kIn hlim (by have := hr.dp; omega) fun h' tk' e d M => ?_)
    show MkP X pins σ Q (.ref e) ⟨h', g, dr, tk', os⟩
    obtain ⟨oe, fv, hoe, hc, hd, hdat, h1⟩ := M.obj
    have hns := M.ns
    obtain ⟨G', g1, g2⟩ := restrict h' fun b => decide (b ≠ e)
    have gk : ∀ b, b ≠ e → G'.get? b = h'.get? b := fun b hb => g1 b (decide_eq_true hb)
    have ge : G'.get? e = none := g2 e (by simp)
    have old : ∀ b o, hp.get? b = some o → G'.get? b = some o := fun b o q => (gk b (Nat.ne_of_lt (Nat.lt_of_lt_of_le (Heap.lt_size q) M.new))).trans (M.keep b o q)
    have ob : ObjOk X.prog X.w (upd H1 d (.xd [(("what" : Str), v)])) G' d (.xd [(("what" : Str), v)]) :=
      ⟨_, hns.at (fun o q => (gk d M.dne).trans q), fun f => relO_what rv f⟩
    have J : Inv X pins σ (upd H1 d (.xd [(("what" : Str), v)])) ⟨G', g, dr, tk', os⟩ := I1.laid (t' := tk') old M.dbig ob
    refine ⟨e, oe, fv, ⟨G', g, dr, tk', os⟩, _, .ref C, some d, rfl, J, fun b o q => ?_, ge, hoe, ⟨hc, hd⟩, hdat, h1, ?_, rfl, I1.bare, raises_own T.exC T.tyC, q1 d (I1.hok.fresh M.dbig)⟩
    · by_cases hb : b = e
      · have q' : G'.get? b = some o := q
        rw [hb, ge] at q'; cases q'
      · exact (gk b hb).symm.trans q
    · rw [upd_ne (Ne.symm M.dne)]
      exact I1.hok.fresh M.new
theorem pe_fld_g_what {X : Cx} {C : Addr} {a : Addr} {oe : Obj} {d : Option Addr} {pn : List (Addr × Obj)} {e : Expr} {te : TE} {pos : Pos} (sa : PySem.W.findIn X.K (.ref C) "__setattr__" = some (some (.builtin "object.__setattr__"))) (ga : PySem.W.findIn X.K (.ref C) "__getattribute__" = some (some (.builtin "BaseException.__getattribute__")))
    (gg : PySem.W.findIn X.K (.ref C) "__getattr__" = some none) (nn : PySem.W.findIn X.K (.ref C) "what" = some none) (exC : PySem.W.subIn X.K (.ref C) (.type "BaseException") = some true) (hdC : PySem.W.hasDictIn X.K C = true) (hz : Zc (.ref C) d oe) (hf : ∃ vs, oe.data = .fields vs) (he : PE (X.suite a ((a, oe) :: pn)) e te)
    (hb : attributeBase e "what" X.env (eval e X.env) = eval e X.env) :
    PE (X.suite a ((a, oe) :: pn)) (.Attribute e "what" pos) (VS.tByF a d "what" te) := by
  refine ⟨fun pins s σ H Q I h => ?_⟩
  refine attr_of hb (thn (he.run pins s σ H _ I h) fun u s1 hh => ?_)
  obtain ⟨x, H1, I1, rx, ex, dd, v, ed, ea, q⟩ := hh
  subst ex
  obtain rfl : u = Value.ref a := rx
  subst ed
  obtain ⟨ha, _⟩ := I1.pin (a, oe) (List.mem_append_left _ List.mem_cons_self)
  obtain ⟨vs, hd⟩ := hf
  have hx : ObjOk X.prog X.w H1 s1.heap dd (.xd [(("what" : Str), v)]) := I1.hok dd _ ea
  obtain ⟨mA, hns, hr⟩ := hx
  obtain ⟨od, ho, hl⟩ := lookIn_ns hns
  have l : List.lookup ("what" : Str) [(("what" : Str), v)] = some v := by simp [List.lookup]
  obtain ⟨u, hu, ru⟩ := RelO.some_of (v := v) (o := mA "what") (by rw [← l]; exact hr "what")
  have J : PySem.W.InstAt s1.heap a oe C (some od) := ⟨ha, hz.1, by unfold PySem.W.notCls; rw [hd] <;> rfl, by rw [hz.2]; exact ho⟩
  exact HandSPX.exc_get I1.kIn J ga gg exC (PySem.W.findObj_own hdC nn rfl (by rw [hl, hu])) (handed_of ru) ⟨v, H1, I1.tok _, ru, q⟩
theorem err_what {K : PySem.W.Frag} {mg : Str → Option Value} (T : PySem.Err_what.Txt K mg C fI cn qn) : VS.ErrC K mg C cn "what" where
  made := fun {X a ta p pos k} eK eM hr ha hg hd hs => by
    subst eK eM
    exact pmk_what T hr ha hg hd hs
  fd := fun {X a oe d pn e te pos} eK hz hf he hb => by
    subst eK
    refine pe_fld_g_what T.sa T.ga T.gg T.noN T.exC T.hdC hz hf he (VS.base_ok hb)
end
end L2


namespace PySem
namespace Err_line
open PySem.W PySem.Calls PyProof.Rows PySem.HandSPX
def iA (p1 p2 : Pos) : Arguments := { posonlyargs := [], args := [{ arg := "self", annotation := none, pos := p1 }, { arg := "line", annotation := none, pos := p2 }], vararg := none, kwonlyargs := [], kw_defaults := [], kwarg := none, defaults := [] }
def iB (q1 q2 q3 q4 : Pos) : List Stmt := [.Assign [.Attribute (.Name "self" q1) "line" q2] (.Name "line" q3) q4]
def iS : Scope := { kind := .function, names := [(PySem.Str.ofString "self", .local), (PySem.Str.ofString "line", .local)], isGenerator := false, isCoroutine := false, more := [] }
/-- what the written part says of such a class, at C, and of its maker, at fI -/
structure Txt (K : Frag) (mg : Str → Option Value) (C fI : Addr) (cn qn : Str) : Prop where
  gC : mg cn = some (.ref C)
  cls : ∃ nm q N bs bm sn sub ab col dd k0 k1 k2 k3 k5, K.lookup C = some (excClassObj nm q C N bs bm true sn sub ab col dd k0 k1 k2 k3 k5 "ValueError.__new__") ∧ refsVE bm = true
  sa : findIn K (.ref C) "__setattr__" = some (some (.builtin "object.__setattr__"))
  ga : findIn K (.ref C) "__getattribute__" = some (some (.builtin "BaseException.__getattribute__"))
  gg : findIn K (.ref C) "__getattr__" = some none
  noN : findIn K (.ref C) "line" = some none
  iC : findIn K (.ref C) "__init__" = some (some (.ref fI))
  tC : typeIn K (.ref fI) = some (.type "function")
  kC : keepIn K (.ref C) = true
  exC : subIn K (.ref C) (.type "BaseException") = some true
  tyC : typeIn K (.ref C) = some (.type "type")
  hdC : hasDictIn K C = true
  fn : ∃ (oc : Value) (od : Option Addr) (doc pm : Value) (an : Option Addr) (cdv ct : Value) (osl : Array (Option Value)) (p1 p2 q1 q2 q3 q4 : Pos),
    K.lookup fI = some ⟨oc, od, .func (fnOf "__init__" qn (iA p1 p2) (iB q1 q2 q3 q4) iS .none .none doc pm an cdv ct), osl⟩ ∧ codeIn K cdv qn = true
theorem one_size (v : Value) : [v].length ≤ sizeLine := by
  rw [sizeLine_eq]
  exact (by decide : 1 ≤ 16777216)
theorem ldC {M : Model} {s : Shared} {name : Str} {scope : Scope} {L a : Addr} {cd : Value} {m : Str → Option Value} {x : Str} {pos : Pos} {v : Value} {Q : Value → Shared → Prop} {A : Around} {E : Value → Shared → Prop} (hn : s.heap.Ns L m) (hv : m x = some v) (h : Q v s)
    (hk : scope.kind = .function := by rfl) (hl : (envOfC name scope L a cd).kindOf x = some .local := by rfl) (hd : (x == ("__debug__" : Str)) = false := by decide) :
    wpAny M A (eval (.Name x pos) (envOfC name scope L a cd)) Q E s := wpAny_Name (wpAny_loadName_local hk hl hn hv h) hd
/-- what the maker leaves of a fresh exception at x -/
structure InitEnd (h h' : Heap) (x C dx t1 : Addr) (v : Value) : Prop where
  keep : ∀ b o, b ≠ x → h.get? b = some o → h'.get? b = some o
  obj : h'.get? x = some { cls := .ref C, dict := some dx, data := .fields #[.ref t1, .none, .none, .none, .bool false, .none] }
  dbig : h.objs.size ≤ dx
  dne : dx ≠ x
  ns : h'.Ns1 dx (fun y => if y = "line" then some v else none)
/-- a made error -/
structure OwnMade (h h' : Heap) (e C d : Addr) (v : Value) : Prop where
  keep : ∀ b o, h.get? b = some o → h'.get? b = some o
  new : h.objs.size ≤ e
  obj : ∃ oe vs, h'.get? e = some oe ∧ oe.cls = .ref C ∧ oe.dict = some d ∧ oe.data = .fields vs ∧ vs[1]? = some .none
  dbig : h.objs.size ≤ d
  dne : d ≠ e
  ns : h'.Ns1 d (fun y => if y = "line" then some v else none)
section
variable {prog : Program} {w : World} {A : Around} {E : Value → Shared → Prop} {R : Result → Shared → Prop} {s : Shared} {K : Frag} {mg : Str → Option Value} {C fI : Addr} {cn qn : Str}
theorem low_init (T : Txt K mg C fI cn qn) {x t0 : Addr} {v : Value} (X : K.In s.heap) (hlim : s.heap.NoLimit) (hx : s.heap.get? x = some (excO C t0)) (hnx : K.lookup x = none) (hroom : A.depth < recursionLimit)
    (hq : ∀ h' tk dx, InitEnd s.heap h' x C dx t0 v → R (.ok (.ret .none)) { s with heap := h', toks := tk }) :
    codeAny (model prog w) A (.call (.ref fI) ⟨[.ref x, v], []⟩) R s := by
  obtain ⟨oc, od, doc, pm, an, cdv, ct, osl, p1, p2, q1, q2, q3, q4, ho, hcd⟩ := T.fn
  obtain ⟨nm, q, N, bs, bm, sn, sub, ab, col, dd, k0, k1, k2, k3, k5, hC, hbm⟩ := T.cls
  have hcl : clsIn K C = some { name := nm, bases := bs, mro := .ref C :: bm, ns := N, qualname := q, hasDict := true, slotNames := sn, subclasses := sub, abstract := ab, collection := col, hasDel := false } := by unfold clsIn; rw [hC] <;> rfl
  refine Att.call_fn (binds := [("self", .ref x), ("line", v)]) X hlim ho hcd hroom (BindsTo.of_eq (by first | rfl | with_unfolding_all rfl)) (by first | rfl | decide | with_unfolding_all rfl) (fun s₁ IC => ?_) rfl rfl rfl
  obtain ⟨h₁, tk₁, rfl⟩ := IC.toInCall.same
  have k : ∀ b o, s.heap.get? b = some o → h₁.get? b = some o := IC.toInCall.keep
  have hn := IC.toInCall.ns
  have hxL : s.heap.objs.size ≠ x := Nat.ne_of_gt (Heap.lt_size hx)
  have X₁ : K.In h₁ := X.keeps k
  have hx₁ := k _ _ hx
  show wpAny _ _ (execs _ _) _ _ _
  refine wpAny_execs_cons (plainObj_wpAny_Assign_Attribute ?_)
  refine ldC (v := v) hn (by first | rfl | with_unfolding_all rfl | kernel_rfl) (ldC (v := .ref x) hn (by first | rfl | with_unfolding_all rfl | kernel_rfl) ?_)
  refine set_plain X₁ (ox := excO C t0) (od := none) ⟨hx₁, rfl, rfl, trivial⟩ T.sa ?_
  refine exc_osa X₁ hx₁ hcl (show refsVE (.ref C :: bm) = true from hbm) rfl T.noN (fun h₃ tk₃ dx k₃ dn dne hx₃ hn₃ => ?_)
  show wpAny _ _ (execs _ _) _ _ _
  have z : s.heap.objs.size < h₁.objs.size := hn.lt
  exact wpAny_execs_nil (hq h₃ tk₃ dx ⟨fun b o hb e => k₃ b o hb (k b o e), hx₃, Nat.le_of_lt (Nat.lt_of_lt_of_le z dn), dne, hn₃⟩)
theorem low_made (T : Txt K mg C fI cn qn) {v : Value} (X : K.In s.heap) (hlim : s.heap.NoLimit) (hroom : A.depth + 1 < recursionLimit)
    (hq : ∀ h' tk e d, OwnMade s.heap h' e C d v → R (.ok (.ret (.ref e))) { s with heap := h', toks := tk }) :
    codeAny (model prog w) A (.call (.ref C) ⟨[v], []⟩) R s := by
  obtain ⟨nm, q, N, bs, bm, sn, sub, ab, col, dd, k0, k1, k2, k3, k5, hC, hbm⟩ := T.cls
  obtain ⟨hp, g, dr, tk, os⟩ := s
  have k : ∀ b o, hp.get? b = some o → ((hp.push (kdv_tup [v])).push (excO C hp.objs.size)).get? b = some o := fun b o e => Heap.get?_push_of_some _ (Heap.get?_push_of_some _ e)
  have hget : ((hp.push (kdv_tup [v])).push (excO C hp.objs.size)).get? (hp.objs.size + 1) = some (excO C hp.objs.size) := by heap_get
  have hnx : K.lookup (hp.objs.size + 1) = none := by
    cases e : K.lookup (hp.objs.size + 1) with
    | none => rfl
    | some o =>
      have z : hp.get? (hp.objs.size + 1) = some o := X _ _ e
      exact absurd (Nat.lt_of_succ_lt (Heap.lt_size z)) (Nat.lt_irrefl _)
  refine call_own F.excBase_ValueError (fun X => refsVE_contains X bm hbm) (X _ _ hC) (looks_findIn X T.iC) (fun self => bind_fn X self T.tC) (one_size v) ?_
  refine low_init (s := ⟨(hp.push (kdv_tup [v])).push (excO C hp.objs.size), g, dr, tk, os⟩) T (X.keeps k) (hlim.keeps k) hget hnx ?_ fun h' tk' dx ⟨k', hx, dn, dne, hns⟩ => ?_
  · show A.depth + 1 < recursionLimit
    exact hroom
  · have old : ∀ b o, hp.get? b = some o → h'.get? b = some o := fun b o e => k' b o (Nat.ne_of_lt (Nat.lt_succ_of_lt (Heap.lt_size e))) (k b o e)
    have z : hp.objs.size + 1 + 1 ≤ dx := by
      first
        | (simpa only [Heap.size_push] using dn)
        | exact dn
        | (have q := dn; rw [Heap.size_push, Heap.size_push] at q; exact q)
    exact ⟨rfl, hq h' tk' (hp.objs.size + 1) dx ⟨old, Nat.le_succ _, ⟨_, _, hx, rfl, rfl, rfl, rfl⟩, Nat.le_trans (Nat.le_trans (Nat.le_succ _) (Nat.le_succ _)) z, dne, hns⟩⟩
end
end Err_line
end PySem
namespace L2
open PySem PySem.Spec PyProof.Rows
theorem relO_line {v : V} {v' : Value} (r : RelV v v') (f : Str) : RelO (List.lookup f [(("line" : Str), v)]) (if f = "line" then some v' else none) := by
  by_cases hw : f = "line"
  · subst hw
    rw [if_pos rfl]
    have q : List.lookup ("line" : Str) [(("line" : Str), v)] = some v := by simp [List.lookup]
    rw [q]
    exact r
  · rw [if_neg hw]
    have qw : (f == ("line" : Str)) = false := by simpa using hw
    have q2 : List.lookup f [(("line" : Str), v)] = none := by simp [List.lookup, qw]
    rw [q2]
    trivial
section
variable {X : Cx} {C fI : Addr} {cn qn : Str}
theorem pmk_line {a : Expr} {ta : TA} {p pos : Pos} {k : Nat} (T : PySem.Err_line.Txt X.K X.mg C fI cn qn) (hr : Room k X.A) (ha : PA X [a] ta) (hg : Gl X cn) (hdb : (cn == ("__debug__" : Str)) = false)
    (he : starEach (a :: []) X.env = (false, eval a X.env) :: starEach [] X.env) (hpl : (backTo pos (starEach [] X.env)).any (·.1) = false := by rfl) :
    PMk X (.Call (.Name cn p) [a] [] pos) (VS.tMkF C "line" ta) := by
  intro pins s σ H Q I h
  refine wpAny_Call_Name_kw (ld_glob I hg T.gC ?_ hdb)
  refine PySem.W.callWith_K (h₀ := X.base) I.ok.mod.kin T.kC (thn (ha.run pos pins s σ H _ I h) fun us s1 hh => ?_) he hpl
  obtain ⟨vs, H1, I1, r1, v, ev, q1⟩ := hh
  subst ev
  refine ⟨I1.kIn, ?_⟩
  cases r1 with
  | cons rv rn =>
    rename_i v' us'
    cases rn
    show wpAny _ _ (call (.ref C) [v']) _ _ _
    have hlim := I1.nolimit
    obtain ⟨hp, g, dr, tk, os⟩ := s1
    refine wpAny_call (PySem.Err_line.low_made T I1.kIn hlim (by have := hr.dp; omega) fun h' tk' e d M => ?_)
    show MkP X pins σ Q (.ref e) ⟨h', g, dr, tk', os⟩
    obtain ⟨oe, fv, hoe, hc, hd, hdat, h1⟩ := M.obj
    have hns := M.ns
    obtain ⟨G', g1, g2⟩ := restrict h' fun b => decide (b ≠ e)
    have gk : ∀ b, b ≠ e → G'.get? b = h'.get? b := fun b hb => g1 b (decide_eq_true hb)
    have ge : G'.get? e = none := g2 e (by simp)
    have old : ∀ b o, hp.get? b = some o → G'.get? b = some o := fun b o q => (gk b (Nat.ne_of_lt (Nat.lt_of_lt_of_le (Heap.lt_size q) M.new))).trans (M.keep b o q)
    have ob : ObjOk X.prog X.w (upd H1 d (.xd [(("line" : Str), v)])) G' d (.xd [(("line" : Str), v)]) :=
      ⟨_, hns.at (fun o q => (gk d M.dne).trans q), fun f => relO_line rv f⟩
    have J : Inv X pins σ (upd H1 d (.xd [(("line" : Str), v)])) ⟨G', g, dr, tk', os⟩ := I1.laid (t' := tk') old M.dbig ob
    refine ⟨e, oe, fv, ⟨G', g, dr, tk', os⟩, _, .ref C, some d, rfl, J, fun b o q => ?_, ge, hoe, ⟨hc, hd⟩, hdat, h1, ?_, rfl, I1.bare, raises_own T.exC T.tyC, q1 d (I1.hok.fresh M.dbig)⟩
    · by_cases hb : b = e
      · have q' : G'.get? b = some o := q
        rw [hb, ge] at q'; cases q'
      · exact (gk b hb).symm.trans q
    · rw [upd_ne (Ne.symm M.dne)]
      exact I1.hok.fresh M.new
theorem pe_fld_g_line {X : Cx} {C : Addr} {a : Addr} {oe : Obj} {d : Option Addr} {pn : List (Addr × Obj)} {e : Expr} {te : TE} {pos : Pos} (sa : PySem.W.findIn X.K (.ref C) "__setattr__" = some (some (.builtin "object.__setattr__"))) (ga : PySem.W.findIn X.K (.ref C) "__getattribute__" = some (some (.builtin "BaseException.__getattribute__")))
    (gg : PySem.W.findIn X.K (.ref C) "__getattr__" = some none) (nn : PySem.W.findIn X.K (.ref C) "line" = some none) (exC : PySem.W.subIn X.K (.ref C) (.type "BaseException") = some true) (hdC : PySem.W.hasDictIn X.K C = true) (hz : Zc (.ref C) d oe) (hf : ∃ vs, oe.data = .fields vs) (he : PE (X.suite a ((a, oe) :: pn)) e te)
    (hb : attributeBase e "line" X.env (eval e X.env) = eval e X.env) :
    PE (X.suite a ((a, oe) :: pn)) (.Attribute e "line" pos) (VS.tByF a d "line" te) := by
  refine ⟨fun pins s σ H Q I h => ?_⟩
  refine attr_of hb (thn (he.run pins s σ H _ I h) fun u s1 hh => ?_)
  obtain ⟨x, H1, I1, rx, ex, dd, v, ed, ea, q⟩ := hh
  subst ex
  obtain rfl : u = Value.ref a := rx
  subst ed
  obtain ⟨ha, _⟩ := I1.pin (a, oe) (List.mem_append_left _ List.mem_cons_self)
  obtain ⟨vs, hd⟩ := hf
  have hx : ObjOk X.prog X.w H1 s1.heap dd (.xd [(("line" : Str), v)]) := I1.hok dd _ ea
  obtain ⟨mA, hns, hr⟩ := hx
  obtain ⟨od, ho, hl⟩ := lookIn_ns hns
  have l : List.lookup ("line" : Str) [(("line" : Str), v)] = some v := by simp [List.lookup]
  obtain ⟨u, hu, ru⟩ := RelO.some_of (v := v) (o := mA "line") (by rw [← l]; exact hr "line")
  have J : PySem.W.InstAt s1.heap a oe C (some od) := ⟨ha, hz.1, by unfold PySem.W.notCls; rw [hd] <;> rfl, by rw [hz.2]; exact ho⟩
  exact HandSPX.exc_get I1.kIn J ga gg exC (PySem.W.findObj_own hdC nn rfl (by rw [hl, hu])) (handed_of ru) ⟨v, H1, I1.tok _, ru, q⟩
theorem err_line {K : PySem.W.Frag} {mg : Str → Option Value} (T : PySem.Err_line.Txt K mg C fI cn qn) : VS.ErrC K mg C cn "line" where
  made := fun {X a ta p pos k} eK eM hr ha hg hd hs => by
    subst eK eM
    exact pmk_line T hr ha hg hd hs
  fd := fun {X a oe d pn e te pos} eK hz hf he hb => by
    subst eK
    refine pe_fld_g_line T.sa T.ga T.gg T.noN T.exC T.hdC hz hf he (VS.base_ok hb)
end
end L2


namespace PySem
namespace Err_moment
open PySem.W PySem.Calls PyProof.Rows PySem.HandSPX
def iA (p1 p2 : Pos) : Arguments := { posonlyargs := [], args := [{ arg := "self", annotation := none, pos := p1 }, { arg := "moment", annotation := none, pos := p2 }], vararg := none, kwonlyargs := [], kw_defaults := [], kwarg := none, defaults := [] }
def iB (q1 q2 q3 q4 : Pos) : List Stmt := [.Assign [.Attribute (.Name "self" q1) "moment" q2] (.Name "moment" q3) q4]
def iS : Scope := { kind := .function, names := [(PySem.Str.ofString "self", .local), (PySem.Str.ofString "moment", .local)], isGenerator := false, isCoroutine := false, more := [] }
/-- what the written part says of such a class, at C, and of its maker, at fI -/
structure Txt (K : Frag) (mg : Str → Option Value) (C fI : Addr) (cn qn : Str) : Prop where
  gC : mg cn = some (.ref C)
  cls : ∃ nm q N bs bm sn sub ab col dd k0 k1 k2 k3 k5, K.lookup C = some (excClassObj nm q C N bs bm true sn sub ab col dd k0 k1 k2 k3 k5 "ValueError.__new__") ∧ refsVE bm = true
  sa : findIn K (.ref C) "__setattr__" = some (some (.builtin "object.__setattr__"))
  ga : findIn K (.ref C) "__getattribute__" = some (some (.builtin "BaseException.__getattribute__"))
  gg : findIn K (.ref C) "__getattr__" = some none
  noN : findIn K (.ref C) "moment" = some none
  iC : findIn K (.ref C) "__init__" = some (some (.ref fI))
  tC : typeIn K (.ref fI) = some (.type "function")
  kC : keepIn K (.ref C) = true
  exC : subIn K (.ref C) (.type "BaseException") = some true
  tyC : typeIn K (.ref C) = some (.type "type")
  hdC : hasDictIn K C = true
  fn : ∃ (oc : Value) (od : Option Addr) (doc pm : Value) (an : Option Addr) (cdv ct : Value) (osl : Array (Option Value)) (p1 p2 q1 q2 q3 q4 : Pos),
    K.lookup fI = some ⟨oc, od, .func (fnOf "__init__" qn (iA p1 p2) (iB q1 q2 q3 q4) iS .none .none doc pm an cdv ct), osl⟩ ∧ codeIn K cdv qn = true
theorem one_size (v : Value) : [v].length ≤ sizeLine := by
  rw [sizeLine_eq]
  exact (by decide : 1 ≤ 16777216)
theorem ldC {M : Model} {s : Shared} {name : Str} {scope : Scope} {L a : Addr} {cd : Value} {m : Str → Option Value} {x : Str} {pos : Pos} {v : Value} {Q : Value → Shared → Prop} {A : Around} {E : Value → Shared → Prop} (hn : s.heap.Ns L m) (hv : m x = some v) (h : Q v s)
    (hk : scope.kind = .function := by rfl) (hl : (envOfC name scope L a cd).kindOf x = some .local := by rfl) (hd : (x == ("__debug__" : Str)) = false := by decide) :
    wpAny M A (eval (.Name x pos) (envOfC name scope L a cd)) Q E s := wpAny_Name (wpAny_loadName_local hk hl hn hv h) hd
/-- what the maker leaves of a fresh exception at x -/
structure InitEnd (h h' : Heap) (x C dx t1 : Addr) (v : Value) : Prop where
  keep : ∀ b o, b ≠ x → h.get? b = some o → h'.get? b = some o
  obj : h'.get? x = some { cls := .ref C, dict := some dx, data := .fields #[.ref t1, .none, .none, .none, .bool false, .none] }
  dbig : h.objs.size ≤ dx
  dne : dx ≠ x
  ns : h'.Ns1 dx (fun y => if y = "moment" then some v else none)
/-- a made error -/
structure OwnMade (h h' : Heap) (e C d : Addr) (v : Value) : Prop where
  keep : ∀ b o, h.get? b = some o → h'.get? b = some o
  new : h.objs.size ≤ e
  obj : ∃ oe vs, h'.get? e = some oe ∧ oe.cls = .ref C ∧ oe.dict = some d ∧ oe.data = .fields vs ∧ vs[1]? = some .none
  dbig : h.objs.size ≤ d
  dne : d ≠ e
  ns : h'.Ns1 d (fun y => if y = "moment" then some v else none)
section
variable {prog : Program} {w : World} {A : Around} {E : Value → Shared → Prop} {R : Result → Shared → Prop} {s : Shared} {K : Frag} {mg : Str → Option Value} {C fI : Addr} {cn qn : Str}
theorem low_init (T : Txt K mg C fI cn qn) {x t0 : Addr} {v : Value} (X : K.In s.heap) (hlim : s.heap.NoLimit) (hx : s.heap.get? x = some (excO C t0)) (hnx : K.lookup x = none) (hroom : A.depth < recursionLimit)
    (hq : ∀ h' tk dx, InitEnd s.heap h' x C dx t0 v → R (.ok (.ret .none)) { s with heap := h', toks := tk }) :
    codeAny (model prog w) A (.call (.ref fI) ⟨[.ref x, v], []⟩) R s := by
  obtain ⟨oc, od, doc, pm, an, cdv, ct, osl, p1, p2, q1, q2, q3, q4, ho, hcd⟩ := T.fn
  obtain ⟨nm, q, N, bs, bm, sn, sub, ab, col, dd, k0, k1, k2, k3, k5, hC, hbm⟩ := T.cls
  have hcl : clsIn K C = some { name := nm, bases := bs, mro := .ref C :: bm, ns := N, qualname := q, hasDict := true, slotNames := sn, subclasses := sub, abstract := ab, collection := col, hasDel := false } := by unfold clsIn; rw [hC] <;> rfl
  refine Att.call_fn (binds := [("self", .ref x), ("moment", v)]) X hlim ho hcd hroom (BindsTo.of_eq (by first | rfl | with_unfolding_all rfl)) (by first | rfl | decide | with_unfolding_all rfl) (fun s₁ IC => ?_) rfl rfl rfl
  obtain ⟨h₁, tk₁, rfl⟩ := IC.toInCall.same
  have k : ∀ b o, s.heap.get? b = some o → h₁.get? b = some o := IC.toInCall.keep
  have hn := IC.toInCall.ns
  have hxL : s.heap.objs.size ≠ x := Nat.ne_of_gt (Heap.lt_size hx)
  have X₁ : K.In h₁ := X.keeps k
  have hx₁ := k _ _ hx
  show wpAny _ _ (execs _ _) _ _ _
  refine wpAny_execs_cons (plainObj_wpAny_Assign_Attribute ?_)
  refine ldC (v := v) hn (by first | rfl | with_unfolding_all rfl | kernel_rfl) (ldC (v := .ref x) hn (by first | rfl | with_unfolding_all rfl | kernel_rfl) ?_)
  refine set_plain X₁ (ox := excO C t0) (od := none) ⟨hx₁, rfl, rfl, trivial⟩ T.sa ?_
  refine exc_osa X₁ hx₁ hcl (show refsVE (.ref C :: bm) = true from hbm) rfl T.noN (fun h₃ tk₃ dx k₃ dn dne hx₃ hn₃ => ?_)
  show wpAny _ _ (execs _ _) _ _ _
  have z : s.heap.objs.size < h₁.objs.size := hn.lt
  exact wpAny_execs_nil (hq h₃ tk₃ dx ⟨fun b o hb e => k₃ b o hb (k b o e), hx₃, Nat.le_of_lt (Nat.lt_of_lt_of_le z dn), dne, hn₃⟩)
theorem low_made (T : Txt K mg C fI cn qn) {v : Value} (X : K.In s.heap) (hlim : s.heap.NoLimit) (hroom : A.depth + 1 < recursionLimit)
    (hq : ∀ h' tk e d, OwnMade s.heap h' e C d v → R (.ok (.ret (.ref e))) { s with heap := h', toks := tk }) :
    codeAny (model prog w) A (.call (.ref C) ⟨[v], []⟩) R s := by
  obtain ⟨nm, q, N, bs, bm, sn, sub, ab, col, dd, k0, k1, k2, k3, k5, hC, hbm⟩ := T.cls
  obtain ⟨hp, g, dr, tk, os⟩ := s
  have k : ∀ b o, hp.get? b = some o → ((hp.push (kdv_tup [v])).push (excO C hp.objs.size)).get? b = some o := fun b o e => Heap.get?_push_of_some _ (Heap.get?_push_of_some _ e)
  have hget : ((hp.push (kdv_tup [v])).push (excO C hp.objs.size)).get? (hp.objs.size + 1) = some (excO C hp.objs.size) := by heap_get
  have hnx : K.lookup (hp.objs.size + 1) = none := by
    cases e : K.lookup (hp.objs.size + 1) with
    | none => rfl
    | some o =>
      have z : hp.get? (hp.objs.size + 1) = some o := X _ _ e
      exact absurd (Nat.lt_of_succ_lt (Heap.lt_size z)) (Nat.lt_irrefl _)
  refine call_own F.excBase_ValueError (fun X => refsVE_contains X bm hbm) (X _ _ hC) (looks_findIn X T.iC) (fun self => bind_fn X self T.tC) (one_size v) ?_
  refine low_init (s := ⟨(hp.push (kdv_tup [v])).push (excO C hp.objs.size), g, dr, tk, os⟩) T (X.keeps k) (hlim.keeps k) hget hnx ?_ fun h' tk' dx ⟨k', hx, dn, dne, hns⟩ => ?_
  · show A.depth + 1 < recursionLimit
    exact hroom
  · have old : ∀ b o, hp.get? b = some o → h'.get? b = some o := fun b o e => k' b o (Nat.ne_of_lt (Nat.lt_succ_of_lt (Heap.lt_size e))) (k b o e)
    have z : hp.objs.size + 1 + 1 ≤ dx := by
      first
        | (simpa only [Heap.size_push] using dn)
        | exact dn
        | (have q := dn; rw [Heap.size_push, Heap.size_push] at q; exact q)
    exact ⟨rfl, hq h' tk' (hp.objs.size + 1) dx ⟨old, Nat.le_succ _, ⟨_, _, hx, rfl, rfl, rfl, rfl⟩, Nat.le_trans (Nat.le_trans (Nat.le_succ _) (Nat.le_succ _)) z, dne, hns⟩⟩
end
end Err_moment
end PySem
namespace L2
open PySem PySem.Spec PyProof.Rows
theorem relO_moment {v : V} {v' : Value} (r : RelV v v') (f : Str) : RelO (List.lookup f [(("moment" : Str), v)]) (if f = "moment" then some v' else none) := by
  by_cases hw : f = "moment"
  · subst hw
    rw [if_pos rfl]
    have q : List.lookup ("moment" : Str) [(("moment" : Str), v)] = some v := by simp [List.lookup]
    rw [q]
    exact r
  · rw [if_neg hw]
    have qw : (f == ("moment" : Str)) = false := by simpa using hw
    have q2 : List.lookup f [(("moment" : Str), v)] = none := by simp [List.lookup, qw]
    rw [q2]
    trivial
section
variable {X : Cx} {C fI : Addr} {cn qn : Str}
theorem pmk_moment {a : Expr} {ta : TA} {p pos : Pos} {k : Nat} (T : PySem.Err_moment.Txt X.K X.mg C fI cn qn) (hr : Room k X.A) (ha : PA X [a] ta) (hg : Gl X cn) (hdb : (cn == ("__debug__" : Str)) = false)
    (he : starEach (a :: []) X.env = (false, eval a X.env) :: starEach [] X.env) (hpl : (backTo pos (starEach [] X.env)).any (·.1) = false := by rfl) :
    PMk X (.Call (.Name cn p) [a] [] pos) (VS.tMkF C "moment" ta) := by
  intro pins s σ H Q I h
  refine wpAny_Call_Name_kw (ld_glob I hg T.gC ?_ hdb)
  refine PySem.W.callWith_K (h₀ := X.base) I.ok.mod.kin T.kC (thn (ha.run pos pins s σ H _ I h) fun us s1 hh => ?_) he hpl
  obtain ⟨vs, H1, I1, r1, v, ev, q1⟩ := hh
  subst ev
  refine ⟨I1.kIn, ?_⟩
  cases r1 with
  | cons rv rn =>
    rename_i v' us'
    cases rn
    show wpAny _ _ (call (.ref C) [v']) _ _ _
    have hlim := I1.nolimit
    obtain ⟨hp, g, dr, tk, os⟩ := s1
    refine wpAny_call (PySem.Err_moment.low_made T I1.kIn hlim (by have := hr.dp; omega) fun h' tk' e d M => ?_)
    show MkP X pins σ Q (.ref e) ⟨h', g, dr, tk', os⟩
    obtain ⟨oe, fv, hoe, hc, hd, hdat, h1⟩ := M.obj
    have hns := M.ns
    obtain ⟨G', g1, g2⟩ := restrict h' fun b => decide (b ≠ e)
    have gk : ∀ b, b ≠ e → G'.get? b = h'.get? b := fun b hb => g1 b (decide_eq_true hb)
    have ge : G'.get? e = none := g2 e (by simp)
    have old : ∀ b o, hp.get? b = some o → G'.get? b = some o := fun b o q => (gk b (Nat.ne_of_lt (Nat.lt_of_lt_of_le (Heap.lt_size q) M.new))).trans (M.keep b o q)
    have ob : ObjOk X.prog X.w (upd H1 d (.xd [(("moment" : Str), v)])) G' d (.xd [(("moment" : Str), v)]) :=
      ⟨_, hns.at (fun o q => (gk d M.dne).trans q), fun f => relO_moment rv f⟩
    have J : Inv X pins σ (upd H1 d (.xd [(("moment" : Str), v)])) ⟨G', g, dr, tk', os⟩ := I1.laid (t' := tk') old M.dbig ob
    refine ⟨e, oe, fv, ⟨G', g, dr, tk', os⟩, _, .ref C, some d, rfl, J, fun b o q => ?_, ge, hoe, ⟨hc, hd⟩, hdat, h1, ?_, rfl, I1.bare, raises_own T.exC T.tyC, q1 d (I1.hok.fresh M.dbig)⟩
    · by_cases hb : b = e
      · have q' : G'.get? b = some o := q
        rw [hb, ge] at q'; cases q'
      · exact (gk b hb).symm.trans q
    · rw [upd_ne (Ne.symm M.dne)]
      exact I1.hok.fresh M.new
theorem pe_fld_g_moment {X : Cx} {C : Addr} {a : Addr} {oe : Obj} {d : Option Addr} {pn : List (Addr × Obj)} {e : Expr} {te : TE} {pos : Pos} (sa : PySem.W.findIn X.K (.ref C) "__setattr__" = some (some (.builtin "object.__setattr__"))) (ga : PySem.W.findIn X.K (.ref C) "__getattribute__" = some (some (.builtin "BaseException.__getattribute__")))
    (gg : PySem.W.findIn X.K (.ref C) "__getattr__" = some none) (nn : PySem.W.findIn X.K (.ref C) "moment" = some none) (exC : PySem.W.subIn X.K (.ref C) (.type "BaseException") = some true) (hdC : PySem.W.hasDictIn X.K C = true) (hz : Zc (.ref C) d oe) (hf : ∃ vs, oe.data = .fields vs) (he : PE (X.suite a ((a, oe) :: pn)) e te)
    (hb : attributeBase e "moment" X.env (eval e X.env) = eval e X.env) :
    PE (X.suite a ((a, oe) :: pn)) (.Attribute e "moment" pos) (VS.tByF a d "moment" te) := by
  refine ⟨fun pins s σ H Q I h => ?_⟩
  refine attr_of hb (thn (he.run pins s σ H _ I h) fun u s1 hh => ?_)
  obtain ⟨x, H1, I1, rx, ex, dd, v, ed, ea, q⟩ := hh
  subst ex
  obtain rfl : u = Value.ref a := rx
  subst ed
  obtain ⟨ha, _⟩ := I1.pin (a, oe) (List.mem_append_left _ List.mem_cons_self)
  obtain ⟨vs, hd⟩ := hf
  have hx : ObjOk X.prog X.w H1 s1.heap dd (.xd [(("moment" : Str), v)]) := I1.hok dd _ ea
  obtain ⟨mA, hns, hr⟩ := hx
  obtain ⟨od, ho, hl⟩ := lookIn_ns hns
  have l : List.lookup ("moment" : Str) [(("moment" : Str), v)] = some v := by simp [List.lookup]
  obtain ⟨u, hu, ru⟩ := RelO.some_of (v := v) (o := mA "moment") (by rw [← l]; exact hr "moment")
  have J : PySem.W.InstAt s1.heap a oe C (some od) := ⟨ha, hz.1, by unfold PySem.W.notCls; rw [hd] <;> rfl, by rw [hz.2]; exact ho⟩
  exact HandSPX.exc_get I1.kIn J ga gg exC (PySem.W.findObj_own hdC nn rfl (by rw [hl, hu])) (handed_of ru) ⟨v, H1, I1.tok _, ru, q⟩
theorem err_moment {K : PySem.W.Frag} {mg : Str → Option Value} (T : PySem.Err_moment.Txt K mg C fI cn qn) : VS.ErrC K mg C cn "moment" where
  made := fun {X a ta p pos k} eK eM hr ha hg hd hs => by
    subst eK eM
    exact pmk_moment T hr ha hg hd hs
  fd := fun {X a oe d pn e te pos} eK hz hf he hb => by
    subst eK
    refine pe_fld_g_moment T.sa T.ga T.gg T.noN T.exC T.hdC hz hf he (VS.base_ok hb)
end
end L2


namespace PySem
namespace Err_place
open PySem.W PySem.Calls PyProof.Rows PySem.HandSPX
def iA (p1 p2 : Pos) : Arguments := { posonlyargs := [], args := [{ arg := "self", annotation := none, pos := p1 }, { arg := "place", annotation := none, pos := p2 }], vararg := none, kwonlyargs := [], kw_defaults := [], kwarg := none, defaults := [] }
def iB (q1 q2 q3 q4 : Pos) : List Stmt := [.Assign [.Attribute (.Name "self" q1) "place" q2] (.Name "place" q3) q4]
def iS : Scope := { kind := .function, names := [(PySem.Str.ofString "self", .local), (PySem.Str.ofString "place", .local)], isGenerator := false, isCoroutine := false, more := [] }
/-- what the written part says of such a class, at C, and of its maker, at fI -/
structure Txt (K : Frag) (mg : Str → Option Value) (C fI : Addr) (cn qn : Str) : Prop where
  gC : mg cn = some (.ref C)
  cls : ∃ nm q N bs bm sn sub ab col dd k0 k1 k2 k3 k5, K.lookup C = some (excClassObj nm q C N bs bm true sn sub ab col dd k0 k1 k2 k3 k5 "ValueError.__new__") ∧ refsVE bm = true
  sa : findIn K (.ref C) "__setattr__" = some (some (.builtin "object.__setattr__"))
  ga : findIn K (.ref C) "__getattribute__" = some (some (.builtin "BaseException.__getattribute__"))
  gg : findIn K (.ref C) "__getattr__" = some none
  noN : findIn K (.ref C) "place" = some none
  iC : findIn K (.ref C) "__init__" = some (some (.ref fI))
  tC : typeIn K (.ref fI) = some (.type "function")
  kC : keepIn K (.ref C) = true
  exC : subIn K (.ref C) (.type "BaseException") = some true
  tyC : typeIn K (.ref C) = some (.type "type")
  hdC : hasDictIn K C = true
  fn : ∃ (oc : Value) (od : Option Addr) (doc pm : Value) (an : Option Addr) (cdv ct : Value) (osl : Array (Option Value)) (p1 p2 q1 q2 q3 q4 : Pos),
    K.lookup fI = some ⟨oc, od, .func (fnOf "__init__" qn (iA p1 p2) (iB q1 q2 q3 q4) iS .none .none doc pm an cdv ct), osl⟩ ∧ codeIn K cdv qn = true
theorem one_size (v : Value) : [v].length ≤ sizeLine := by
  rw [sizeLine_eq]
  exact (by decide : 1 ≤ 16777216)
theorem ldC {M : Model} {s : Shared} {name : Str} {scope : Scope} {L a : Addr} {cd : Value} {m : Str → Option Value} {x : Str} {pos : Pos} {v : Value} {Q : Value → Shared → Prop} {A : Around} {E : Value → Shared → Prop} (hn : s.heap.Ns L m) (hv : m x = some v) (h : Q v s)
    (hk : scope.kind = .function := by rfl) (hl : (envOfC name scope L a cd).kindOf x = some .local := by rfl) (hd : (x == ("__debug__" : Str)) = false := by decide) :
    wpAny M A (eval (.Name x pos) (envOfC name scope L a cd)) Q E s := wpAny_Name (wpAny_loadName_local hk hl hn hv h) hd
/-- what the maker leaves of a fresh exception at x -/
structure InitEnd (h h' : Heap) (x C dx t1 : Addr) (v : Value) : Prop where
  keep : ∀ b o, b ≠ x → h.get? b = some o → h'.get? b = some o
  obj : h'.get? x = some { cls := .ref C, dict := some dx, data := .fields #[.ref t1, .none, .none, .none, .bool false, .none] }
  dbig : h.objs.size ≤ dx
  dne : dx ≠ x
  ns : h'.Ns1 dx (fun y => if y = "place" then some v else none)
/-- a made error -/
structure OwnMade (h h' : Heap) (e C d : Addr) (v : Value) : Prop where
  keep : ∀ b o, h.get? b = some o → h'.get? b = some o
  new : h.objs.size ≤ e
  obj : ∃ oe vs, h'.get? e = some oe ∧ oe.cls = .ref C ∧ oe.dict = some d ∧ oe.data = .fields vs ∧ vs[1]? = some .none
  dbig : h.objs.size ≤ d
  dne : d ≠ e
  ns : h'.Ns1 d (fun y => if y = "place" then some v else none)
section
variable {prog : Program} {w : World} {A : Around} {E : Value → Shared → Prop} {R : Result → Shared → Prop} {s : Shared} {K : Frag} {mg : Str → Option Value} {C fI : Addr} {cn qn : Str}
theorem low_init (T : Txt K mg C fI cn qn) {x t0 : Addr} {v : Value} (X : K.In s.heap) (hlim : s.heap.NoLimit) (hx : s.heap.get? x = some (excO C t0)) (hnx : K.lookup x = none) (hroom : A.depth < recursionLimit)
    (hq : ∀ h' tk dx, InitEnd s.heap h' x C dx t0 v → R (.ok (.ret .none)) { s with heap := h', toks := tk }) :
    codeAny (model prog w) A (.call (.ref fI) ⟨[.ref x, v], []⟩) R s := by
  obtain ⟨oc, od, doc, pm, an, cdv, ct, osl, p1, p2, q1, q2, q3, q4, ho, hcd⟩ := T.fn
  obtain ⟨nm, q, N, bs, bm, sn, sub, ab, col, dd, k0, k1, k2, k3, k5, hC, hbm⟩ := T.cls
  have hcl : clsIn K C = some { name := nm, bases := bs, mro := .ref C :: bm, ns := N, qualname := q, hasDict := true, slotNames := sn, subclasses := sub, abstract := ab, collection := col, hasDel := false } := by unfold clsIn; rw [hC] <;> rfl
  refine Att.call_fn (binds := [("self", .ref x), ("place", v)]) X hlim ho hcd hroom (BindsTo.of_eq (by first | rfl | with_unfolding_all rfl)) (by first | rfl | decide | with_unfolding_all rfl) (fun s₁ IC => ?_) rfl rfl rfl
  obtain ⟨h₁, tk₁, rfl⟩ := IC.toInCall.same
  have k : ∀ b o, s.heap.get? b = some o → h₁.get? b = some o := IC.toInCall.keep
  have hn := IC.toInCall.ns
  have hxL : s.heap.objs.size ≠ x := Nat.ne_of_gt (Heap.lt_size hx)
  have X₁ : K.In h₁ := X.keeps k
  have hx₁ := k _ _ hx
  show wpAny _ _ (execs _ _) _ _ _
  refine wpAny_execs_cons (plainObj_wpAny_Assign_Attribute ?_)
  refine ldC (v := v) hn (by first | rfl | with_unfolding_all rfl | kernel_rfl) (ldC (v := .ref x) hn (by first | rfl | with_unfolding_all rfl | kernel_rfl) ?_)
  refine set_plain X₁ (ox := excO C t0) (od := none) ⟨hx₁, rfl, rfl, trivial⟩ T.sa ?_
  refine exc_osa X₁ hx₁ hcl (show refsVE (.ref C :: bm) = true from hbm) rfl T.noN (fun h₃ tk₃ dx k₃ dn dne hx₃ hn₃ => ?_)
  show wpAny _ _ (execs _ _) _ _ _
  have z : s.heap.objs.size < h₁.objs.size := hn.lt
  exact wpAny_execs_nil (hq h₃ tk₃ dx ⟨fun b o hb e => k₃ b o hb (k b o e), hx₃, Nat.le_of_lt (Nat.lt_of_lt_of_le z dn), dne, hn₃⟩)
theorem low_made (T : Txt K mg C fI cn qn) {v : Value} (X : K.In s.heap) (hlim : s.heap.NoLimit) (hroom : A.depth + 1 < recursionLimit)
    (hq : ∀ h' tk e d, OwnMade s.heap h' e C d v → R (.ok (.ret (.ref e))) { s with heap := h', toks := tk }) :
    codeAny (model prog w) A (.call (.ref C) ⟨[v], []⟩) R s := by
  obtain ⟨nm, q, N, bs, bm, sn, sub, ab, col, dd, k0, k1, k2, k3, k5, hC, hbm⟩ := T.cls
  obtain ⟨hp, g, dr, tk, os⟩ := s
  have k : ∀ b o, hp.get? b = some o → ((hp.push (kdv_tup [v])).push (excO C hp.objs.size)).get? b = some o := fun b o e => Heap.get?_push_of_some _ (Heap.get?_push_of_some _ e)
  have hget : ((hp.push (kdv_tup [v])).push (excO C hp.objs.size)).get? (hp.objs.size + 1) = some (excO C hp.objs.size) := by heap_get
  have hnx : K.lookup (hp.objs.size + 1) = none := by
    cases e : K.lookup (hp.objs.size + 1) with
    | none => rfl
    | some o =>
      have z : hp.get? (hp.objs.size + 1) = some o := X _ _ e
      exact absurd (Nat.lt_of_succ_lt (Heap.lt_size z)) (Nat.lt_irrefl _)
  refine call_own F.excBase_ValueError (fun X => refsVE_contains X bm hbm) (X _ _ hC) (looks_findIn X T.iC) (fun self => bind_fn X self T.tC) (one_size v) ?_
  refine low_init (s := ⟨(hp.push (kdv_tup [v])).push (excO C hp.objs.size), g, dr, tk, os⟩) T (X.keeps k) (hlim.keeps k) hget hnx ?_ fun h' tk' dx ⟨k', hx, dn, dne, hns⟩ => ?_
  · show A.depth + 1 < recursionLimit
    exact hroom
  · have old : ∀ b o, hp.get? b = some o → h'.get? b = some o := fun b o e => k' b o (Nat.ne_of_lt (Nat.lt_succ_of_lt (Heap.lt_size e))) (k b o e)
    have z : hp.objs.size + 1 + 1 ≤ dx := by
      first
        | (simpa only [Heap.size_push] using dn)
        | exact dn
        | (have q := dn; rw [Heap.size_push, Heap.size_push] at q; exact q)
    exact ⟨rfl, hq h' tk' (hp.objs.size + 1) dx ⟨old, Nat.le_succ _, ⟨_, _, hx, rfl, rfl, rfl, rfl⟩, Nat.le_trans (Nat.le_trans (Nat.le_succ _) (Nat.le_succ _)) z, dne, hns⟩⟩
end
end Err_place
end PySem
namespace L2
open PySem PySem.Spec PyProof.Rows
theorem relO_place {v : V} {v' : Value} (r : RelV v v') (f : Str) : RelO (List.lookup f [(("place" : Str), v)]) (if f = "place" then some v' else none) := by
  by_cases hw : f = "place"
  · subst hw
    rw [if_pos rfl]
    have q : List.lookup ("place" : Str) [(("place" : Str), v)] = some v := by simp [List.lookup]
    rw [q]
    exact r
  · rw [if_neg hw]
    have qw : (f == ("place" : Str)) = false := by simpa using hw
    have q2 : List.lookup f [(("place" : Str), v)] = none := by simp [List.lookup, qw]
    rw [q2]
    trivial
section
variable {X : Cx} {C fI : Addr} {cn qn : Str}
theorem pmk_place {a : Expr} {ta : TA} {p pos : Pos} {k : Nat} (T : PySem.Err_place.Txt X.K X.mg C fI cn qn) (hr : Room k X.A) (ha : PA X [a] ta) (hg : Gl X cn) (hdb : (cn == ("__debug__" : Str)) = false)
    (he : starEach (a :: []) X.env = (false, eval a X.env) :: starEach [] X.env) (hpl : (backTo pos (starEach [] X.env)).any (·.1) = false := by rfl) :
    PMk X (.Call (.Name cn p) [a] [] pos) (VS.tMkF C "place" ta) := by
  intro pins s σ H Q I h
  refine wpAny_Call_Name_kw (ld_glob I hg T.gC ?_ hdb)
  refine PySem.W.callWith_K (h₀ := X.base) I.ok.mod.kin T.kC (thn (ha.run pos pins s σ H _ I h) fun us s1 hh => ?_) he hpl
  obtain ⟨vs, H1, I1, r1, v, ev, q1⟩ := hh
  subst ev
  refine ⟨I1.kIn, ?_⟩
  cases r1 with
  | cons rv rn =>
    rename_i v' us'
    cases rn
    show wpAny _ _ (call (.ref C) [v']) _ _ _
    have hlim := I1.nolimit
    obtain ⟨hp, g, dr, tk, os⟩ := s1
    refine wpAny_call (PySem.Err_place.low_made T I1.kIn hlim (by have := hr.dp; omega) fun h' tk' e d M => ?_)
    show MkP X pins σ Q (.ref e) ⟨h', g, dr, tk', os⟩
    obtain ⟨oe, fv, hoe, hc, hd, hdat, h1⟩ := M.obj
    have hns := M.ns
    obtain ⟨G', g1, g2⟩ := restrict h' fun b => decide (b ≠ e)
    have gk : ∀ b, b ≠ e → G'.get? b = h'.get? b := fun b hb => g1 b (decide_eq_true hb)
    have ge : G'.get? e = none := g2 e (by simp)
    have old : ∀ b o, hp.get? b = some o → G'.get? b = some o := fun b o q => (gk b (Nat.ne_of_lt (Nat.lt_of_lt_of_le (Heap.lt_size q) M.new))).trans (M.keep b o q)
    have ob : ObjOk X.prog X.w (upd H1 d (.xd [(("place" : Str), v)])) G' d (.xd [(("place" : Str), v)]) :=
      ⟨_, hns.at (fun o q => (gk d M.dne).trans q), fun f => relO_place rv f⟩
    have J : Inv X pins σ (upd H1 d (.xd [(("place" : Str), v)])) ⟨G', g, dr, tk', os⟩ := I1.laid (t' := tk') old M.dbig ob
    refine ⟨e, oe, fv, ⟨G', g, dr, tk', os⟩, _, .ref C, some d, rfl, J, fun b o q => ?_, ge, hoe, ⟨hc, hd⟩, hdat, h1, ?_, rfl, I1.bare, raises_own T.exC T.tyC, q1 d (I1.hok.fresh M.dbig)⟩
    · by_cases hb : b = e
      · have q' : G'.get? b = some o := q
        rw [hb, ge] at q'; cases q'
      · exact (gk b hb).symm.trans q
    · rw [upd_ne (Ne.symm M.dne)]
      exact I1.hok.fresh M.new
theorem pe_fld_g_place {X : Cx} {C : Addr} {a : Addr} {oe : Obj} {d : Option Addr} {pn : List (Addr × Obj)} {e : Expr} {te : TE} {pos : Pos} (sa : PySem.W.findIn X.K (.ref C) "__setattr__" = some (some (.builtin "object.__setattr__"))) (ga : PySem.W.findIn X.K (.ref C) "__getattribute__" = some (some (.builtin "BaseException.__getattribute__")))
    (gg : PySem.W.findIn X.K (.ref C) "__getattr__" = some none) (nn : PySem.W.findIn X.K (.ref C) "place" = some none) (exC : PySem.W.subIn X.K (.ref C) (.type "BaseException") = some true) (hdC : PySem.W.hasDictIn X.K C = true) (hz : Zc (.ref C) d oe) (hf : ∃ vs, oe.data = .fields vs) (he : PE (X.suite a ((a, oe) :: pn)) e te)
    (hb : attributeBase e "place" X.env (eval e X.env) = eval e X.env) :
    PE (X.suite a ((a, oe) :: pn)) (.Attribute e "place" pos) (VS.tByF a d "place" te) := by
  refine ⟨fun pins s σ H Q I h => ?_⟩
  refine attr_of hb (thn (he.run pins s σ H _ I h) fun u s1 hh => ?_)
  obtain ⟨x, H1, I1, rx, ex, dd, v, ed, ea, q⟩ := hh
  subst ex
  obtain rfl : u = Value.ref a := rx
  subst ed
  obtain ⟨ha, _⟩ := I1.pin (a, oe) (List.mem_append_left _ List.mem_cons_self)
  obtain ⟨vs, hd⟩ := hf
  have hx : ObjOk X.prog X.w H1 s1.heap dd (.xd [(("place" : Str), v)]) := I1.hok dd _ ea
  obtain ⟨mA, hns, hr⟩ := hx
  obtain ⟨od, ho, hl⟩ := lookIn_ns hns
  have l : List.lookup ("place" : Str) [(("place" : Str), v)] = some v := by simp [List.lookup]
  obtain ⟨u, hu, ru⟩ := RelO.some_of (v := v) (o := mA "place") (by rw [← l]; exact hr "place")
  have J : PySem.W.InstAt s1.heap a oe C (some od) := ⟨ha, hz.1, by unfold PySem.W.notCls; rw [hd] <;> rfl, by rw [hz.2]; exact ho⟩
  exact HandSPX.exc_get I1.kIn J ga gg exC (PySem.W.findObj_own hdC nn rfl (by rw [hl, hu])) (handed_of ru) ⟨v, H1, I1.tok _, ru, q⟩
theorem err_place {K : PySem.W.Frag} {mg : Str → Option Value} (T : PySem.Err_place.Txt K mg C fI cn qn) : VS.ErrC K mg C cn "place" where
  made := fun {X a ta p pos k} eK eM hr ha hg hd hs => by
    subst eK eM
    exact pmk_place T hr ha hg hd hs
  fd := fun {X a oe d pn e te pos} eK hz hf he hb => by
    subst eK
    refine pe_fld_g_place T.sa T.ga T.gg T.noN T.exC T.hdC hz hf he (VS.base_ok hb)
end
end L2

set_option Elab.async false
set_option linter.all false
set_option maxRecDepth 100000
/-! WA: how the evaluator computes, rule by rule (for the plain laws). -/
namespace Ru
open PySem PySem.Spec PyProof.Rows L2 VS
theorem bind_ok {α β : Type} (a : α) (ρ : En) (f : α → En → R β) : (R.ok a ρ).bind f = f a ρ := rfl
theorem bind_exc {α β : Type} (c : Nat) (fs : List (Str × D)) (ρ : En) (f : α → En → R β) : (R.exc c fs ρ : R α).bind f = .exc c fs ρ := rfl
theorem opt_some {α : Type} (a : α) (ρ : En) : R.opt (some a) ρ = .ok a ρ := rfl
theorem fl_ok {α : Type} (a : α) (ρ : En) (f : α → En → Fl) : (R.ok a ρ).fl f = f a ρ := rfl
theorem fl_exc {α : Type} (c : Nat) (fs : List (Str × D)) (ρ : En) (f : α → En → Fl) : (R.exc c fs ρ : R α).fl f = .exc c fs ρ := rfl
theorem seq_nx (ρ : En) (f : En → Fl) : (Fl.nx ρ).seq f = f ρ := rfl
theorem seq_ret (x : D × Md) (ρ : En) (f : En → Fl) : (Fl.ret x ρ).seq f = .ret x ρ := rfl
theorem seq_exc (c : Nat) (fs : List (Str × D)) (ρ : En) (f : En → Fl) : (Fl.exc c fs ρ).seq f = .exc c fs ρ := rfl
theorem seq_brk (ρ : En) (f : En → Fl) : (Fl.brk ρ).seq f = .brk ρ := rfl
theorem seq_cnt (ρ : En) (f : En → Fl) : (Fl.cnt ρ).seq f = .cnt ρ := rfl
theorem seq_ite {c : Prop} [Decidable c] (a b : Fl) (f : En → Fl) : (if c then a else b).seq f = if c then a.seq f else b.seq f := by split <;> rfl
theorem look_var (i : Nat) (x : R (D × Md)) (ρ : En) : look (.var i) x ρ = (R.opt (slot ρ i) ρ).bind fun dm ρ => .ok dm.1 ρ := rfl
theorem slot_0 (x : Option (D × Md)) (r : En) : slot (x :: r) 0 = x := by cases x <;> rfl
theorem slot_s (x : Option (D × Md)) (r : En) (i : Nat) : slot (x :: r) (i + 1) = slot r i := rfl
section
variable (P : Pg) (Γ : Ga) (ρ : En) (a b c t : Ex) (es : List Ex) (r : List Sm)
theorem sss_nil : exSs P Γ [] ρ = .nx ρ := rfl
theorem sss_cons (s : Sm) : exSs P Γ (s :: r) ρ = (exS P Γ s ρ).seq fun ρ => exSs P Γ r ρ := rfl
theorem s_set (i : Nat) : exS P Γ (.set i a) ρ = (ev P Γ a ρ).fl fun x ρ => .nx (ρ.set i (some x)) := rfl
theorem s_ret : exS P Γ (.ret a) ρ = (ev P Γ a ρ).fl fun x ρ => .ret x ρ := rfl
theorem s_expr : exS P Γ (.expr a) ρ = (ev P Γ a ρ).fl fun _ ρ => .nx ρ := rfl
theorem s_raise (k : Nat) : exS P Γ (.raise k a) ρ = (ev P Γ a ρ).fl fun x ρ => .exc k [(P.ef k, x.1)] ρ := rfl
/-- a truth's value -/
def tr (c : Ex) (ρ : En) : R Bool := (look c (ev P Γ c ρ) ρ).bind fun x ρ => match x with
  | .bl k => .ok k ρ
  | _ => .bad
theorem s_ife (x y : List Sm) : exS P Γ (.ife t x y) ρ = (tr P Γ t ρ).fl fun k ρ => if k then exSs P Γ x ρ else exSs P Γ y ρ := by
  show ((look t (ev P Γ t ρ) ρ).fl fun v ρ => match v with
    | .bl true => exSs P Γ x ρ
    | .bl false => exSs P Γ y ρ
    | _ => .bad) = _
  unfold tr
  cases look t (ev P Γ t ρ) ρ with
  | ok v ρ => cases v with
    | bl k => cases k <;> rfl
    | _ => rfl
  | _ => rfl
theorem tr_var (i : Nat) : tr P Γ (.var i) ρ = (R.opt (slot ρ i) ρ).bind fun dm ρ => match dm.1 with
  | .bl k => .ok k ρ
  | _ => .bad := by
  unfold tr
  rw [look_var]
  cases slot ρ i <;> rfl
theorem tr_and : tr P Γ (.and es) ρ = evAnd P Γ es ρ := by
  show (((evAnd P Γ es ρ).bind fun k ρ => .ok ((.bl k, .dp) : D × Md) ρ).bind fun dm ρ => .ok dm.1 ρ).bind _ = _
  cases evAnd P Γ es ρ <;> rfl
theorem tr_or : tr P Γ (.or es) ρ = evOr P Γ es ρ := by
  show (((evOr P Γ es ρ).bind fun k ρ => .ok ((.bl k, .dp) : D × Md) ρ).bind fun dm ρ => .ok dm.1 ρ).bind _ = _
  cases evOr P Γ es ρ <;> rfl
theorem and_nil : evAnd P Γ [] ρ = .ok true ρ := rfl
theorem or_nil : evOr P Γ [] ρ = .ok false ρ := rfl
theorem and_cons : evAnd P Γ (a :: es) ρ = (tr P Γ a ρ).bind fun k ρ => if k then evAnd P Γ es ρ else .ok false ρ := by
  show ((look a (ev P Γ a ρ) ρ).bind fun v ρ => match v with
    | .bl true => evAnd P Γ es ρ
    | .bl false => .ok false ρ
    | _ => .bad) = _
  unfold tr
  cases look a (ev P Γ a ρ) ρ with
  | ok v ρ => cases v with
    | bl k => cases k <;> rfl
    | _ => rfl
  | _ => rfl
theorem or_cons : evOr P Γ (a :: es) ρ = (tr P Γ a ρ).bind fun k ρ => if k then .ok true ρ else evOr P Γ es ρ := by
  show ((look a (ev P Γ a ρ) ρ).bind fun v ρ => match v with
    | .bl true => .ok true ρ
    | .bl false => evOr P Γ es ρ
    | _ => .bad) = _
  unfold tr
  cases look a (ev P Γ a ρ) ρ with
  | ok v ρ => cases v with
    | bl k => cases k <;> rfl
    | _ => rfl
  | _ => rfl
theorem tr_not : tr P Γ (.not a) ρ = (tr P Γ a ρ).bind fun k ρ => .ok (!k) ρ := by
  unfold tr
  show (((look a (ev P Γ a ρ) ρ).bind fun x ρ => match x with
    | .bl k => .ok ((.bl (!k), .dp) : D × Md) ρ
    | _ => .bad).bind fun dm ρ => .ok dm.1 ρ).bind _ = _
  cases look a (ev P Γ a ρ) ρ with
  | ok v ρ => cases v <;> rfl
  | _ => rfl
/-- a truth from an expression's value -/
theorem tr_of {k : Bool} {ρ' : En} {m : Md} (h : ev P Γ c ρ = .ok (.bl k, m) ρ') (hv : isVar c = false) : tr P Γ c ρ = .ok k ρ' := by
  unfold tr
  have : look c (ev P Γ c ρ) ρ = (ev P Γ c ρ).bind fun dm ρ => .ok dm.1 ρ := by cases c <;> first | rfl | (simp [isVar] at hv)
  rw [this, h]
  rfl
theorem tr_cmp (op : Cop) : tr P Γ (.cmp op a b) ρ = (look a (ev P Γ a ρ) ρ).bind fun x ρ => (look b (ev P Γ b ρ) ρ).bind fun y ρ => if keptL P a b x then R.opt (cmpD op x y) ρ else .bad := by
  unfold tr
  show ((((look a (ev P Γ a ρ) ρ).bind fun x ρ => (look b (ev P Γ b ρ) ρ).bind fun y ρ => if keptL P a b x then (R.opt (cmpD op x y) ρ).bind fun k ρ => .ok ((.bl k, .dp) : D × Md) ρ else .bad).bind fun dm ρ => .ok dm.1 ρ)).bind _ = _
  cases look a (ev P Γ a ρ) ρ with
  | ok x ρ =>
    show ((((look b (ev P Γ b ρ) ρ).bind fun y ρ => if keptL P a b x then (R.opt (cmpD op x y) ρ).bind fun k ρ => .ok ((.bl k, .dp) : D × Md) ρ else .bad).bind fun dm ρ => .ok dm.1 ρ)).bind _ = (look b (ev P Γ b ρ) ρ).bind fun y ρ => if keptL P a b x then R.opt (cmpD op x y) ρ else .bad
    cases look b (ev P Γ b ρ) ρ with
    | ok y ρ =>
      show (((if keptL P a b x then (R.opt (cmpD op x y) ρ).bind fun k ρ => .ok ((.bl k, .dp) : D × Md) ρ else .bad).bind fun dm ρ => .ok dm.1 ρ)).bind _ = (if keptL P a b x then R.opt (cmpD op x y) ρ else .bad)
      split
      · cases cmpD op x y <;> rfl
      · rfl
    | _ => rfl
  | _ => rfl
end
theorem ite_bind {α β : Type} {c : Prop} [Decidable c] (a b : R α) (f : α → En → R β) : (if c then a else b).bind f = if c then a.bind f else b.bind f := by split <;> rfl
theorem ite_fl {α : Type} {c : Prop} [Decidable c] (a b : R α) (f : α → En → Fl) : (if c then a else b).fl f = if c then a.fl f else b.fl f := by split <;> rfl
theorem ev_int (P : Pg) (Γ : Ga) (i : Int) (ρ : En) : ev P Γ (.int i) ρ = .ok (.int i, .dp) ρ := rfl
theorem ev_str (P : Pg) (Γ : Ga) (i : Str) (ρ : En) : ev P Γ (.str i) ρ = .ok (.str i, .dp) ρ := rfl
theorem ev_bl (P : Pg) (Γ : Ga) (i : Bool) (ρ : En) : ev P Γ (.bl i) ρ = .ok (.bl i, .dp) ρ := rfl
theorem ev_non (P : Pg) (Γ : Ga) (ρ : En) : ev P Γ .non ρ = .ok (.non, .dp) ρ := rfl
/-- a name that holds something that cannot be changed -/
theorem rd_imm {ρ : En} {i : Nat} {d : D} {m : Md} (h : slot ρ i = some (d, m)) (hi : imm d = true) : rdVar i ρ = .ok (d, .dp) ρ := by
  unfold rdVar
  rw [h]
  dsimp only
  rw [hi, if_pos rfl]
/-- a loop by a state for each turn -/
theorem forGo_inv {f : D → En → Fl} {ds : List D} (S : Nat → En) (h : ∀ i d, ds[i]? = some d → f d (S i) = .nx (S (i + 1)) ∨ f d (S i) = .cnt (S (i + 1))) : forGo f ds (S 0) = .nx (S ds.length) := by
  have key : ∀ (k : Nat) (es : List D), ds.drop k = es → forGo f es (S k) = .nx (S (k + es.length)) := fun k es => by
    induction es generalizing k with
    | nil => intro _; rfl
    | cons d r ih =>
      intro e
      have hk : ds[k]? = some d := by
        have := congrArg (·[0]?) e
        simpa using this
      have hr : ds.drop (k + 1) = r := by
        rw [← List.drop_drop, e]
        rfl
      have := ih (k + 1) hr
      rcases h k d hk with q | q
      · show (match f d (S k) with
          | .nx ρ => forGo f r ρ
          | .cnt ρ => forGo f r ρ
          | .brk ρ => .nx ρ
          | o => o) = _
        rw [q]
        show forGo f r (S (k + 1)) = _
        rw [this, List.length_cons]
        congr 2
        omega
      · show (match f d (S k) with
          | .nx ρ => forGo f r ρ
          | .cnt ρ => forGo f r ρ
          | .brk ρ => .nx ρ
          | o => o) = _
        rw [q]
        show forGo f r (S (k + 1)) = _
        rw [this, List.length_cons]
        congr 2
        omega
  have := key 0 ds rfl
  rw [Nat.zero_add] at this
  exact this
end Ru

set_option Elab.async false
set_option linter.all false
set_option maxRecDepth 100000
/-! WB: the evaluator's rules for simp (printed by mkwb.py). -/
namespace Ru
open PySem PySem.Spec PyProof.Rows L2 VS
/-- a mark that keeps simp out of a function -/
inductive Tok {α : Type} (f : α) : Type where
  | mk
def bdT {α β : Type} (x : R α) (f : α → En → R β) (_ : Tok f) : R β := x.bind f
def fdT {α : Type} (x : R α) (f : α → En → Fl) (_ : Tok f) : Fl := x.fl f
def sqT (x : Fl) (f : En → Fl) (_ : Tok f) : Fl := x.seq f
def _root_.VS.R.bd {α β : Type} (x : R α) (f : α → En → R β) : R β := x.bind f
def _root_.VS.R.fd {α : Type} (x : R α) (f : α → En → Fl) : Fl := x.fl f
def _root_.VS.Fl.sq (x : Fl) (f : En → Fl) : Fl := x.seq f
def rngL (lo : Int) (n : Nat) : List D := (List.range n).map fun j => .int (lo + (j : Nat))
def fgo (f : D → En → Fl) (_ : Tok f) (ds : List D) (ρ : En) : Fl := forGo f ds ρ
def cgo (f : D → En → R (Option (D × Md))) (_ : Tok f) (ds : List D) (acc : List (D × Md)) (ρ : En) : R (List (D × Md)) := compGo f ds acc ρ

theorem sl0 {x0 : Option (D × Md)} {r : En} : slot (x0 :: r) 0 = x0 := slot_0 _ _
theorem st0 {α : Type} {x0 v : α} {r : List α} : List.set (x0 :: r) 0 v = v :: r := rfl
theorem sl1 {x0 x1 : Option (D × Md)} {r : En} : slot (x0 :: x1 :: r) 1 = x1 := by cases x1 <;> rfl
theorem st1 {α : Type} {x0 x1 v : α} {r : List α} : List.set (x0 :: x1 :: r) 1 v = x0 :: v :: r := rfl
theorem sl2 {x0 x1 x2 : Option (D × Md)} {r : En} : slot (x0 :: x1 :: x2 :: r) 2 = x2 := by cases x2 <;> rfl
theorem st2 {α : Type} {x0 x1 x2 v : α} {r : List α} : List.set (x0 :: x1 :: x2 :: r) 2 v = x0 :: x1 :: v :: r := rfl
theorem sl3 {x0 x1 x2 x3 : Option (D × Md)} {r : En} : slot (x0 :: x1 :: x2 :: x3 :: r) 3 = x3 := by cases x3 <;> rfl
theorem st3 {α : Type} {x0 x1 x2 x3 v : α} {r : List α} : List.set (x0 :: x1 :: x2 :: x3 :: r) 3 v = x0 :: x1 :: x2 :: v :: r := rfl
theorem sl4 {x0 x1 x2 x3 x4 : Option (D × Md)} {r : En} : slot (x0 :: x1 :: x2 :: x3 :: x4 :: r) 4 = x4 := by cases x4 <;> rfl
theorem st4 {α : Type} {x0 x1 x2 x3 x4 v : α} {r : List α} : List.set (x0 :: x1 :: x2 :: x3 :: x4 :: r) 4 v = x0 :: x1 :: x2 :: x3 :: v :: r := rfl
theorem sl5 {x0 x1 x2 x3 x4 x5 : Option (D × Md)} {r : En} : slot (x0 :: x1 :: x2 :: x3 :: x4 :: x5 :: r) 5 = x5 := by cases x5 <;> rfl
theorem st5 {α : Type} {x0 x1 x2 x3 x4 x5 v : α} {r : List α} : List.set (x0 :: x1 :: x2 :: x3 :: x4 :: x5 :: r) 5 v = x0 :: x1 :: x2 :: x3 :: x4 :: v :: r := rfl
theorem sl6 {x0 x1 x2 x3 x4 x5 x6 : Option (D × Md)} {r : En} : slot (x0 :: x1 :: x2 :: x3 :: x4 :: x5 :: x6 :: r) 6 = x6 := by cases x6 <;> rfl
theorem st6 {α : Type} {x0 x1 x2 x3 x4 x5 x6 v : α} {r : List α} : List.set (x0 :: x1 :: x2 :: x3 :: x4 :: x5 :: x6 :: r) 6 v = x0 :: x1 :: x2 :: x3 :: x4 :: x5 :: v :: r := rfl
theorem sl7 {x0 x1 x2 x3 x4 x5 x6 x7 : Option (D × Md)} {r : En} : slot (x0 :: x1 :: x2 :: x3 :: x4 :: x5 :: x6 :: x7 :: r) 7 = x7 := by cases x7 <;> rfl
theorem st7 {α : Type} {x0 x1 x2 x3 x4 x5 x6 x7 v : α} {r : List α} : List.set (x0 :: x1 :: x2 :: x3 :: x4 :: x5 :: x6 :: x7 :: r) 7 v = x0 :: x1 :: x2 :: x3 :: x4 :: x5 :: x6 :: v :: r := rfl
theorem sl8 {x0 x1 x2 x3 x4 x5 x6 x7 x8 : Option (D × Md)} {r : En} : slot (x0 :: x1 :: x2 :: x3 :: x4 :: x5 :: x6 :: x7 :: x8 :: r) 8 = x8 := by cases x8 <;> rfl
theorem st8 {α : Type} {x0 x1 x2 x3 x4 x5 x6 x7 x8 v : α} {r : List α} : List.set (x0 :: x1 :: x2 :: x3 :: x4 :: x5 :: x6 :: x7 :: x8 :: r) 8 v = x0 :: x1 :: x2 :: x3 :: x4 :: x5 :: x6 :: x7 :: v :: r := rfl
theorem sl9 {x0 x1 x2 x3 x4 x5 x6 x7 x8 x9 : Option (D × Md)} {r : En} : slot (x0 :: x1 :: x2 :: x3 :: x4 :: x5 :: x6 :: x7 :: x8 :: x9 :: r) 9 = x9 := by cases x9 <;> rfl
theorem st9 {α : Type} {x0 x1 x2 x3 x4 x5 x6 x7 x8 x9 v : α} {r : List α} : List.set (x0 :: x1 :: x2 :: x3 :: x4 :: x5 :: x6 :: x7 :: x8 :: x9 :: r) 9 v = x0 :: x1 :: x2 :: x3 :: x4 :: x5 :: x6 :: x7 :: x8 :: v :: r := rfl
theorem sl10 {x0 x1 x2 x3 x4 x5 x6 x7 x8 x9 x10 : Option (D × Md)} {r : En} : slot (x0 :: x1 :: x2 :: x3 :: x4 :: x5 :: x6 :: x7 :: x8 :: x9 :: x10 :: r) 10 = x10 := by cases x10 <;> rfl
theorem st10 {α : Type} {x0 x1 x2 x3 x4 x5 x6 x7 x8 x9 x10 v : α} {r : List α} : List.set (x0 :: x1 :: x2 :: x3 :: x4 :: x5 :: x6 :: x7 :: x8 :: x9 :: x10 :: r) 10 v = x0 :: x1 :: x2 :: x3 :: x4 :: x5 :: x6 :: x7 :: x8 :: x9 :: v :: r := rfl
theorem sl11 {x0 x1 x2 x3 x4 x5 x6 x7 x8 x9 x10 x11 : Option (D × Md)} {r : En} : slot (x0 :: x1 :: x2 :: x3 :: x4 :: x5 :: x6 :: x7 :: x8 :: x9 :: x10 :: x11 :: r) 11 = x11 := by cases x11 <;> rfl
theorem st11 {α : Type} {x0 x1 x2 x3 x4 x5 x6 x7 x8 x9 x10 x11 v : α} {r : List α} : List.set (x0 :: x1 :: x2 :: x3 :: x4 :: x5 :: x6 :: x7 :: x8 :: x9 :: x10 :: x11 :: r) 11 v = x0 :: x1 :: x2 :: x3 :: x4 :: x5 :: x6 :: x7 :: x8 :: x9 :: x10 :: v :: r := rfl
theorem sl12 {x0 x1 x2 x3 x4 x5 x6 x7 x8 x9 x10 x11 x12 : Option (D × Md)} {r : En} : slot (x0 :: x1 :: x2 :: x3 :: x4 :: x5 :: x6 :: x7 :: x8 :: x9 :: x10 :: x11 :: x12 :: r) 12 = x12 := by cases x12 <;> rfl
theorem st12 {α : Type} {x0 x1 x2 x3 x4 x5 x6 x7 x8 x9 x10 x11 x12 v : α} {r : List α} : List.set (x0 :: x1 :: x2 :: x3 :: x4 :: x5 :: x6 :: x7 :: x8 :: x9 :: x10 :: x11 :: x12 :: r) 12 v = x0 :: x1 :: x2 :: x3 :: x4 :: x5 :: x6 :: x7 :: x8 :: x9 :: x10 :: x11 :: v :: r := rfl
theorem sl13 {x0 x1 x2 x3 x4 x5 x6 x7 x8 x9 x10 x11 x12 x13 : Option (D × Md)} {r : En} : slot (x0 :: x1 :: x2 :: x3 :: x4 :: x5 :: x6 :: x7 :: x8 :: x9 :: x10 :: x11 :: x12 :: x13 :: r) 13 = x13 := by cases x13 <;> rfl
theorem st13 {α : Type} {x0 x1 x2 x3 x4 x5 x6 x7 x8 x9 x10 x11 x12 x13 v : α} {r : List α} : List.set (x0 :: x1 :: x2 :: x3 :: x4 :: x5 :: x6 :: x7 :: x8 :: x9 :: x10 :: x11 :: x12 :: x13 :: r) 13 v = x0 :: x1 :: x2 :: x3 :: x4 :: x5 :: x6 :: x7 :: x8 :: x9 :: x10 :: x11 :: x12 :: v :: r := rfl
theorem sl14 {x0 x1 x2 x3 x4 x5 x6 x7 x8 x9 x10 x11 x12 x13 x14 : Option (D × Md)} {r : En} : slot (x0 :: x1 :: x2 :: x3 :: x4 :: x5 :: x6 :: x7 :: x8 :: x9 :: x10 :: x11 :: x12 :: x13 :: x14 :: r) 14 = x14 := by cases x14 <;> rfl
theorem st14 {α : Type} {x0 x1 x2 x3 x4 x5 x6 x7 x8 x9 x10 x11 x12 x13 x14 v : α} {r : List α} : List.set (x0 :: x1 :: x2 :: x3 :: x4 :: x5 :: x6 :: x7 :: x8 :: x9 :: x10 :: x11 :: x12 :: x13 :: x14 :: r) 14 v = x0 :: x1 :: x2 :: x3 :: x4 :: x5 :: x6 :: x7 :: x8 :: x9 :: x10 :: x11 :: x12 :: x13 :: v :: r := rfl
theorem sl15 {x0 x1 x2 x3 x4 x5 x6 x7 x8 x9 x10 x11 x12 x13 x14 x15 : Option (D × Md)} {r : En} : slot (x0 :: x1 :: x2 :: x3 :: x4 :: x5 :: x6 :: x7 :: x8 :: x9 :: x10 :: x11 :: x12 :: x13 :: x14 :: x15 :: r) 15 = x15 := by cases x15 <;> rfl
theorem st15 {α : Type} {x0 x1 x2 x3 x4 x5 x6 x7 x8 x9 x10 x11 x12 x13 x14 x15 v : α} {r : List α} : List.set (x0 :: x1 :: x2 :: x3 :: x4 :: x5 :: x6 :: x7 :: x8 :: x9 :: x10 :: x11 :: x12 :: x13 :: x14 :: x15 :: r) 15 v = x0 :: x1 :: x2 :: x3 :: x4 :: x5 :: x6 :: x7 :: x8 :: x9 :: x10 :: x11 :: x12 :: x13 :: x14 :: v :: r := rfl
theorem sl16 {x0 x1 x2 x3 x4 x5 x6 x7 x8 x9 x10 x11 x12 x13 x14 x15 x16 : Option (D × Md)} {r : En} : slot (x0 :: x1 :: x2 :: x3 :: x4 :: x5 :: x6 :: x7 :: x8 :: x9 :: x10 :: x11 :: x12 :: x13 :: x14 :: x15 :: x16 :: r) 16 = x16 := by cases x16 <;> rfl
theorem st16 {α : Type} {x0 x1 x2 x3 x4 x5 x6 x7 x8 x9 x10 x11 x12 x13 x14 x15 x16 v : α} {r : List α} : List.set (x0 :: x1 :: x2 :: x3 :: x4 :: x5 :: x6 :: x7 :: x8 :: x9 :: x10 :: x11 :: x12 :: x13 :: x14 :: x15 :: x16 :: r) 16 v = x0 :: x1 :: x2 :: x3 :: x4 :: x5 :: x6 :: x7 :: x8 :: x9 :: x10 :: x11 :: x12 :: x13 :: x14 :: x15 :: v :: r := rfl
theorem sl17 {x0 x1 x2 x3 x4 x5 x6 x7 x8 x9 x10 x11 x12 x13 x14 x15 x16 x17 : Option (D × Md)} {r : En} : slot (x0 :: x1 :: x2 :: x3 :: x4 :: x5 :: x6 :: x7 :: x8 :: x9 :: x10 :: x11 :: x12 :: x13 :: x14 :: x15 :: x16 :: x17 :: r) 17 = x17 := by cases x17 <;> rfl
theorem st17 {α : Type} {x0 x1 x2 x3 x4 x5 x6 x7 x8 x9 x10 x11 x12 x13 x14 x15 x16 x17 v : α} {r : List α} : List.set (x0 :: x1 :: x2 :: x3 :: x4 :: x5 :: x6 :: x7 :: x8 :: x9 :: x10 :: x11 :: x12 :: x13 :: x14 :: x15 :: x16 :: x17 :: r) 17 v = x0 :: x1 :: x2 :: x3 :: x4 :: x5 :: x6 :: x7 :: x8 :: x9 :: x10 :: x11 :: x12 :: x13 :: x14 :: x15 :: x16 :: v :: r := rfl
theorem sl18 {x0 x1 x2 x3 x4 x5 x6 x7 x8 x9 x10 x11 x12 x13 x14 x15 x16 x17 x18 : Option (D × Md)} {r : En} : slot (x0 :: x1 :: x2 :: x3 :: x4 :: x5 :: x6 :: x7 :: x8 :: x9 :: x10 :: x11 :: x12 :: x13 :: x14 :: x15 :: x16 :: x17 :: x18 :: r) 18 = x18 := by cases x18 <;> rfl
theorem st18 {α : Type} {x0 x1 x2 x3 x4 x5 x6 x7 x8 x9 x10 x11 x12 x13 x14 x15 x16 x17 x18 v : α} {r : List α} : List.set (x0 :: x1 :: x2 :: x3 :: x4 :: x5 :: x6 :: x7 :: x8 :: x9 :: x10 :: x11 :: x12 :: x13 :: x14 :: x15 :: x16 :: x17 :: x18 :: r) 18 v = x0 :: x1 :: x2 :: x3 :: x4 :: x5 :: x6 :: x7 :: x8 :: x9 :: x10 :: x11 :: x12 :: x13 :: x14 :: x15 :: x16 :: x17 :: v :: r := rfl
theorem sl19 {x0 x1 x2 x3 x4 x5 x6 x7 x8 x9 x10 x11 x12 x13 x14 x15 x16 x17 x18 x19 : Option (D × Md)} {r : En} : slot (x0 :: x1 :: x2 :: x3 :: x4 :: x5 :: x6 :: x7 :: x8 :: x9 :: x10 :: x11 :: x12 :: x13 :: x14 :: x15 :: x16 :: x17 :: x18 :: x19 :: r) 19 = x19 := by cases x19 <;> rfl
theorem st19 {α : Type} {x0 x1 x2 x3 x4 x5 x6 x7 x8 x9 x10 x11 x12 x13 x14 x15 x16 x17 x18 x19 v : α} {r : List α} : List.set (x0 :: x1 :: x2 :: x3 :: x4 :: x5 :: x6 :: x7 :: x8 :: x9 :: x10 :: x11 :: x12 :: x13 :: x14 :: x15 :: x16 :: x17 :: x18 :: x19 :: r) 19 v = x0 :: x1 :: x2 :: x3 :: x4 :: x5 :: x6 :: x7 :: x8 :: x9 :: x10 :: x11 :: x12 :: x13 :: x14 :: x15 :: x16 :: x17 :: x18 :: v :: r := rfl
theorem sl20 {x0 x1 x2 x3 x4 x5 x6 x7 x8 x9 x10 x11 x12 x13 x14 x15 x16 x17 x18 x19 x20 : Option (D × Md)} {r : En} : slot (x0 :: x1 :: x2 :: x3 :: x4 :: x5 :: x6 :: x7 :: x8 :: x9 :: x10 :: x11 :: x12 :: x13 :: x14 :: x15 :: x16 :: x17 :: x18 :: x19 :: x20 :: r) 20 = x20 := by cases x20 <;> rfl
theorem st20 {α : Type} {x0 x1 x2 x3 x4 x5 x6 x7 x8 x9 x10 x11 x12 x13 x14 x15 x16 x17 x18 x19 x20 v : α} {r : List α} : List.set (x0 :: x1 :: x2 :: x3 :: x4 :: x5 :: x6 :: x7 :: x8 :: x9 :: x10 :: x11 :: x12 :: x13 :: x14 :: x15 :: x16 :: x17 :: x18 :: x19 :: x20 :: r) 20 v = x0 :: x1 :: x2 :: x3 :: x4 :: x5 :: x6 :: x7 :: x8 :: x9 :: x10 :: x11 :: x12 :: x13 :: x14 :: x15 :: x16 :: x17 :: x18 :: x19 :: v :: r := rfl
theorem sl21 {x0 x1 x2 x3 x4 x5 x6 x7 x8 x9 x10 x11 x12 x13 x14 x15 x16 x17 x18 x19 x20 x21 : Option (D × Md)} {r : En} : slot (x0 :: x1 :: x2 :: x3 :: x4 :: x5 :: x6 :: x7 :: x8 :: x9 :: x10 :: x11 :: x12 :: x13 :: x14 :: x15 :: x16 :: x17 :: x18 :: x19 :: x20 :: x21 :: r) 21 = x21 := by cases x21 <;> rfl
theorem st21 {α : Type} {x0 x1 x2 x3 x4 x5 x6 x7 x8 x9 x10 x11 x12 x13 x14 x15 x16 x17 x18 x19 x20 x21 v : α} {r : List α} : List.set (x0 :: x1 :: x2 :: x3 :: x4 :: x5 :: x6 :: x7 :: x8 :: x9 :: x10 :: x11 :: x12 :: x13 :: x14 :: x15 :: x16 :: x17 :: x18 :: x19 :: x20 :: x21 :: r) 21 v = x0 :: x1 :: x2 :: x3 :: x4 :: x5 :: x6 :: x7 :: x8 :: x9 :: x10 :: x11 :: x12 :: x13 :: x14 :: x15 :: x16 :: x17 :: x18 :: x19 :: x20 :: v :: r := rfl
theorem sl22 {x0 x1 x2 x3 x4 x5 x6 x7 x8 x9 x10 x11 x12 x13 x14 x15 x16 x17 x18 x19 x20 x21 x22 : Option (D × Md)} {r : En} : slot (x0 :: x1 :: x2 :: x3 :: x4 :: x5 :: x6 :: x7 :: x8 :: x9 :: x10 :: x11 :: x12 :: x13 :: x14 :: x15 :: x16 :: x17 :: x18 :: x19 :: x20 :: x21 :: x22 :: r) 22 = x22 := by cases x22 <;> rfl
theorem st22 {α : Type} {x0 x1 x2 x3 x4 x5 x6 x7 x8 x9 x10 x11 x12 x13 x14 x15 x16 x17 x18 x19 x20 x21 x22 v : α} {r : List α} : List.set (x0 :: x1 :: x2 :: x3 :: x4 :: x5 :: x6 :: x7 :: x8 :: x9 :: x10 :: x11 :: x12 :: x13 :: x14 :: x15 :: x16 :: x17 :: x18 :: x19 :: x20 :: x21 :: x22 :: r) 22 v = x0 :: x1 :: x2 :: x3 :: x4 :: x5 :: x6 :: x7 :: x8 :: x9 :: x10 :: x11 :: x12 :: x13 :: x14 :: x15 :: x16 :: x17 :: x18 :: x19 :: x20 :: x21 :: v :: r := rfl
theorem sl23 {x0 x1 x2 x3 x4 x5 x6 x7 x8 x9 x10 x11 x12 x13 x14 x15 x16 x17 x18 x19 x20 x21 x22 x23 : Option (D × Md)} {r : En} : slot (x0 :: x1 :: x2 :: x3 :: x4 :: x5 :: x6 :: x7 :: x8 :: x9 :: x10 :: x11 :: x12 :: x13 :: x14 :: x15 :: x16 :: x17 :: x18 :: x19 :: x20 :: x21 :: x22 :: x23 :: r) 23 = x23 := by cases x23 <;> rfl
theorem st23 {α : Type} {x0 x1 x2 x3 x4 x5 x6 x7 x8 x9 x10 x11 x12 x13 x14 x15 x16 x17 x18 x19 x20 x21 x22 x23 v : α} {r : List α} : List.set (x0 :: x1 :: x2 :: x3 :: x4 :: x5 :: x6 :: x7 :: x8 :: x9 :: x10 :: x11 :: x12 :: x13 :: x14 :: x15 :: x16 :: x17 :: x18 :: x19 :: x20 :: x21 :: x22 :: x23 :: r) 23 v = x0 :: x1 :: x2 :: x3 :: x4 :: x5 :: x6 :: x7 :: x8 :: x9 :: x10 :: x11 :: x12 :: x13 :: x14 :: x15 :: x16 :: x17 :: x18 :: x19 :: x20 :: x21 :: x22 :: v :: r := rfl
theorem lk_int_ {i : Int} {X : R (D × Md)} {ρ : En} : look (.int i) X ρ = X.bind fun dm ρ => .ok dm.1 ρ := rfl
theorem lk_int {i : Int} {X : R (D × Md)} {ρ : En} : look (.int i) X ρ = X.bd fun dm ρ => .ok dm.1 ρ := lk_int_
theorem cp_int_ {i : Int} {X : R (D × Md)} {ρ : En} : cpy (.int i) X ρ = X.bind fun dm ρ => .ok dm.1 ρ := rfl
theorem cp_int {i : Int} {X : R (D × Md)} {ρ : En} : cpy (.int i) X ρ = X.bd fun dm ρ => .ok dm.1 ρ := cp_int_
theorem iv_int {i : Int} : isVar (.int i) = false := rfl
theorem lk_str_ {x : Str} {X : R (D × Md)} {ρ : En} : look (.str x) X ρ = X.bind fun dm ρ => .ok dm.1 ρ := rfl
theorem lk_str {x : Str} {X : R (D × Md)} {ρ : En} : look (.str x) X ρ = X.bd fun dm ρ => .ok dm.1 ρ := lk_str_
theorem cp_str_ {x : Str} {X : R (D × Md)} {ρ : En} : cpy (.str x) X ρ = X.bind fun dm ρ => .ok dm.1 ρ := rfl
theorem cp_str {x : Str} {X : R (D × Md)} {ρ : En} : cpy (.str x) X ρ = X.bd fun dm ρ => .ok dm.1 ρ := cp_str_
theorem iv_str {x : Str} : isVar (.str x) = false := rfl
theorem lk_bl_ {b : Bool} {X : R (D × Md)} {ρ : En} : look (.bl b) X ρ = X.bind fun dm ρ => .ok dm.1 ρ := rfl
theorem lk_bl {b : Bool} {X : R (D × Md)} {ρ : En} : look (.bl b) X ρ = X.bd fun dm ρ => .ok dm.1 ρ := lk_bl_
theorem cp_bl_ {b : Bool} {X : R (D × Md)} {ρ : En} : cpy (.bl b) X ρ = X.bind fun dm ρ => .ok dm.1 ρ := rfl
theorem cp_bl {b : Bool} {X : R (D × Md)} {ρ : En} : cpy (.bl b) X ρ = X.bd fun dm ρ => .ok dm.1 ρ := cp_bl_
theorem iv_bl {b : Bool} : isVar (.bl b) = false := rfl
theorem lk_non_  {X : R (D × Md)} {ρ : En} : look (.non) X ρ = X.bind fun dm ρ => .ok dm.1 ρ := rfl
theorem lk_non  {X : R (D × Md)} {ρ : En} : look (.non) X ρ = X.bd fun dm ρ => .ok dm.1 ρ := lk_non_
theorem cp_non_  {X : R (D × Md)} {ρ : En} : cpy (.non) X ρ = X.bind fun dm ρ => .ok dm.1 ρ := rfl
theorem cp_non  {X : R (D × Md)} {ρ : En} : cpy (.non) X ρ = X.bd fun dm ρ => .ok dm.1 ρ := cp_non_
theorem iv_non  : isVar (.non) = false := rfl
theorem lk_mv_ {i : Nat} {X : R (D × Md)} {ρ : En} : look (.mv i) X ρ = X.bind fun dm ρ => .ok dm.1 ρ := rfl
theorem lk_mv {i : Nat} {X : R (D × Md)} {ρ : En} : look (.mv i) X ρ = X.bd fun dm ρ => .ok dm.1 ρ := lk_mv_
theorem cp_mv_ {i : Nat} {X : R (D × Md)} {ρ : En} : cpy (.mv i) X ρ = X.bind fun dm ρ => .ok dm.1 ρ := rfl
theorem cp_mv {i : Nat} {X : R (D × Md)} {ρ : En} : cpy (.mv i) X ρ = X.bd fun dm ρ => .ok dm.1 ρ := cp_mv_
theorem iv_mv {i : Nat} : isVar (.mv i) = false := rfl
theorem lk_bin_ {op : Bop} {a b : Ex} {X : R (D × Md)} {ρ : En} : look (.bin op a b) X ρ = X.bind fun dm ρ => .ok dm.1 ρ := rfl
theorem lk_bin {op : Bop} {a b : Ex} {X : R (D × Md)} {ρ : En} : look (.bin op a b) X ρ = X.bd fun dm ρ => .ok dm.1 ρ := lk_bin_
theorem cp_bin_ {op : Bop} {a b : Ex} {X : R (D × Md)} {ρ : En} : cpy (.bin op a b) X ρ = X.bind fun dm ρ => .ok dm.1 ρ := rfl
theorem cp_bin {op : Bop} {a b : Ex} {X : R (D × Md)} {ρ : En} : cpy (.bin op a b) X ρ = X.bd fun dm ρ => .ok dm.1 ρ := cp_bin_
theorem iv_bin {op : Bop} {a b : Ex} : isVar (.bin op a b) = false := rfl
theorem lk_neg_ {a : Ex} {X : R (D × Md)} {ρ : En} : look (.neg a) X ρ = X.bind fun dm ρ => .ok dm.1 ρ := rfl
theorem lk_neg {a : Ex} {X : R (D × Md)} {ρ : En} : look (.neg a) X ρ = X.bd fun dm ρ => .ok dm.1 ρ := lk_neg_
theorem cp_neg_ {a : Ex} {X : R (D × Md)} {ρ : En} : cpy (.neg a) X ρ = X.bind fun dm ρ => .ok dm.1 ρ := rfl
theorem cp_neg {a : Ex} {X : R (D × Md)} {ρ : En} : cpy (.neg a) X ρ = X.bd fun dm ρ => .ok dm.1 ρ := cp_neg_
theorem iv_neg {a : Ex} : isVar (.neg a) = false := rfl
theorem lk_cmp_ {op : Cop} {a b : Ex} {X : R (D × Md)} {ρ : En} : look (.cmp op a b) X ρ = X.bind fun dm ρ => .ok dm.1 ρ := rfl
theorem lk_cmp {op : Cop} {a b : Ex} {X : R (D × Md)} {ρ : En} : look (.cmp op a b) X ρ = X.bd fun dm ρ => .ok dm.1 ρ := lk_cmp_
theorem cp_cmp_ {op : Cop} {a b : Ex} {X : R (D × Md)} {ρ : En} : cpy (.cmp op a b) X ρ = X.bind fun dm ρ => .ok dm.1 ρ := rfl
theorem cp_cmp {op : Cop} {a b : Ex} {X : R (D × Md)} {ρ : En} : cpy (.cmp op a b) X ρ = X.bd fun dm ρ => .ok dm.1 ρ := cp_cmp_
theorem iv_cmp {op : Cop} {a b : Ex} : isVar (.cmp op a b) = false := rfl
theorem lk_chain_ {op op2 : Cop} {a b c : Ex} {X : R (D × Md)} {ρ : En} : look (.chain op op2 a b c) X ρ = X.bind fun dm ρ => .ok dm.1 ρ := rfl
theorem lk_chain {op op2 : Cop} {a b c : Ex} {X : R (D × Md)} {ρ : En} : look (.chain op op2 a b c) X ρ = X.bd fun dm ρ => .ok dm.1 ρ := lk_chain_
theorem cp_chain_ {op op2 : Cop} {a b c : Ex} {X : R (D × Md)} {ρ : En} : cpy (.chain op op2 a b c) X ρ = X.bind fun dm ρ => .ok dm.1 ρ := rfl
theorem cp_chain {op op2 : Cop} {a b c : Ex} {X : R (D × Md)} {ρ : En} : cpy (.chain op op2 a b c) X ρ = X.bd fun dm ρ => .ok dm.1 ρ := cp_chain_
theorem iv_chain {op op2 : Cop} {a b c : Ex} : isVar (.chain op op2 a b c) = false := rfl
theorem lk_isN_ {k : Bool} {a : Ex} {X : R (D × Md)} {ρ : En} : look (.isN k a) X ρ = X.bind fun dm ρ => .ok dm.1 ρ := rfl
theorem lk_isN {k : Bool} {a : Ex} {X : R (D × Md)} {ρ : En} : look (.isN k a) X ρ = X.bd fun dm ρ => .ok dm.1 ρ := lk_isN_
theorem cp_isN_ {k : Bool} {a : Ex} {X : R (D × Md)} {ρ : En} : cpy (.isN k a) X ρ = X.bind fun dm ρ => .ok dm.1 ρ := rfl
theorem cp_isN {k : Bool} {a : Ex} {X : R (D × Md)} {ρ : En} : cpy (.isN k a) X ρ = X.bd fun dm ρ => .ok dm.1 ρ := cp_isN_
theorem iv_isN {k : Bool} {a : Ex} : isVar (.isN k a) = false := rfl
theorem lk_and_ {es : List Ex} {X : R (D × Md)} {ρ : En} : look (.and es) X ρ = X.bind fun dm ρ => .ok dm.1 ρ := rfl
theorem lk_and {es : List Ex} {X : R (D × Md)} {ρ : En} : look (.and es) X ρ = X.bd fun dm ρ => .ok dm.1 ρ := lk_and_
theorem cp_and_ {es : List Ex} {X : R (D × Md)} {ρ : En} : cpy (.and es) X ρ = X.bind fun dm ρ => .ok dm.1 ρ := rfl
theorem cp_and {es : List Ex} {X : R (D × Md)} {ρ : En} : cpy (.and es) X ρ = X.bd fun dm ρ => .ok dm.1 ρ := cp_and_
theorem iv_and {es : List Ex} : isVar (.and es) = false := rfl
theorem lk_or_ {es : List Ex} {X : R (D × Md)} {ρ : En} : look (.or es) X ρ = X.bind fun dm ρ => .ok dm.1 ρ := rfl
theorem lk_or {es : List Ex} {X : R (D × Md)} {ρ : En} : look (.or es) X ρ = X.bd fun dm ρ => .ok dm.1 ρ := lk_or_
theorem cp_or_ {es : List Ex} {X : R (D × Md)} {ρ : En} : cpy (.or es) X ρ = X.bind fun dm ρ => .ok dm.1 ρ := rfl
theorem cp_or {es : List Ex} {X : R (D × Md)} {ρ : En} : cpy (.or es) X ρ = X.bd fun dm ρ => .ok dm.1 ρ := cp_or_
theorem iv_or {es : List Ex} : isVar (.or es) = false := rfl
theorem lk_not_ {a : Ex} {X : R (D × Md)} {ρ : En} : look (.not a) X ρ = X.bind fun dm ρ => .ok dm.1 ρ := rfl
theorem lk_not {a : Ex} {X : R (D × Md)} {ρ : En} : look (.not a) X ρ = X.bd fun dm ρ => .ok dm.1 ρ := lk_not_
theorem cp_not_ {a : Ex} {X : R (D × Md)} {ρ : En} : cpy (.not a) X ρ = X.bind fun dm ρ => .ok dm.1 ρ := rfl
theorem cp_not {a : Ex} {X : R (D × Md)} {ρ : En} : cpy (.not a) X ρ = X.bd fun dm ρ => .ok dm.1 ρ := cp_not_
theorem iv_not {a : Ex} : isVar (.not a) = false := rfl
theorem lk_ife_ {t a b : Ex} {X : R (D × Md)} {ρ : En} : look (.ife t a b) X ρ = X.bind fun dm ρ => .ok dm.1 ρ := rfl
theorem lk_ife {t a b : Ex} {X : R (D × Md)} {ρ : En} : look (.ife t a b) X ρ = X.bd fun dm ρ => .ok dm.1 ρ := lk_ife_
theorem cp_ife_ {t a b : Ex} {X : R (D × Md)} {ρ : En} : cpy (.ife t a b) X ρ = X.bind fun dm ρ => .ok dm.1 ρ := rfl
theorem cp_ife {t a b : Ex} {X : R (D × Md)} {ρ : En} : cpy (.ife t a b) X ρ = X.bd fun dm ρ => .ok dm.1 ρ := cp_ife_
theorem iv_ife {t a b : Ex} : isVar (.ife t a b) = false := rfl
theorem lk_lst_ {es : List Ex} {X : R (D × Md)} {ρ : En} : look (.lst es) X ρ = X.bind fun dm ρ => .ok dm.1 ρ := rfl
theorem lk_lst {es : List Ex} {X : R (D × Md)} {ρ : En} : look (.lst es) X ρ = X.bd fun dm ρ => .ok dm.1 ρ := lk_lst_
theorem cp_lst_ {es : List Ex} {X : R (D × Md)} {ρ : En} : cpy (.lst es) X ρ = X.bind fun dm ρ => .ok dm.1 ρ := rfl
theorem cp_lst {es : List Ex} {X : R (D × Md)} {ρ : En} : cpy (.lst es) X ρ = X.bd fun dm ρ => .ok dm.1 ρ := cp_lst_
theorem iv_lst {es : List Ex} : isVar (.lst es) = false := rfl
theorem lk_tup_ {es : List Ex} {X : R (D × Md)} {ρ : En} : look (.tup es) X ρ = X.bind fun dm ρ => .ok dm.1 ρ := rfl
theorem lk_tup {es : List Ex} {X : R (D × Md)} {ρ : En} : look (.tup es) X ρ = X.bd fun dm ρ => .ok dm.1 ρ := lk_tup_
theorem cp_tup_ {es : List Ex} {X : R (D × Md)} {ρ : En} : cpy (.tup es) X ρ = X.bind fun dm ρ => .ok dm.1 ρ := rfl
theorem cp_tup {es : List Ex} {X : R (D × Md)} {ρ : En} : cpy (.tup es) X ρ = X.bd fun dm ρ => .ok dm.1 ρ := cp_tup_
theorem iv_tup {es : List Ex} : isVar (.tup es) = false := rfl
theorem lk_dK0_  {X : R (D × Md)} {ρ : En} : look (.dK0) X ρ = X.bind fun dm ρ => .ok dm.1 ρ := rfl
theorem lk_dK0  {X : R (D × Md)} {ρ : En} : look (.dK0) X ρ = X.bd fun dm ρ => .ok dm.1 ρ := lk_dK0_
theorem cp_dK0_  {X : R (D × Md)} {ρ : En} : cpy (.dK0) X ρ = X.bind fun dm ρ => .ok dm.1 ρ := rfl
theorem cp_dK0  {X : R (D × Md)} {ρ : En} : cpy (.dK0) X ρ = X.bd fun dm ρ => .ok dm.1 ρ := cp_dK0_
theorem iv_dK0  : isVar (.dK0) = false := rfl
theorem lk_dT0_  {X : R (D × Md)} {ρ : En} : look (.dT0) X ρ = X.bind fun dm ρ => .ok dm.1 ρ := rfl
theorem lk_dT0  {X : R (D × Md)} {ρ : En} : look (.dT0) X ρ = X.bd fun dm ρ => .ok dm.1 ρ := lk_dT0_
theorem cp_dT0_  {X : R (D × Md)} {ρ : En} : cpy (.dT0) X ρ = X.bind fun dm ρ => .ok dm.1 ρ := rfl
theorem cp_dT0  {X : R (D × Md)} {ρ : En} : cpy (.dT0) X ρ = X.bd fun dm ρ => .ok dm.1 ρ := cp_dT0_
theorem iv_dT0  : isVar (.dT0) = false := rfl
theorem lk_ix_ {a b : Ex} {X : R (D × Md)} {ρ : En} : look (.ix a b) X ρ = X.bind fun dm ρ => .ok dm.1 ρ := rfl
theorem lk_ix {a b : Ex} {X : R (D × Md)} {ρ : En} : look (.ix a b) X ρ = X.bd fun dm ρ => .ok dm.1 ρ := lk_ix_
theorem cp_ix_ {a b : Ex} {X : R (D × Md)} {ρ : En} : cpy (.ix a b) X ρ = X.bind fun dm ρ => .ok dm.1 ρ := rfl
theorem cp_ix {a b : Ex} {X : R (D × Md)} {ρ : En} : cpy (.ix a b) X ρ = X.bd fun dm ρ => .ok dm.1 ρ := cp_ix_
theorem iv_ix {a b : Ex} : isVar (.ix a b) = false := rfl
theorem lk_slc_ {a : Ex} {lo hi : List Ex} {X : R (D × Md)} {ρ : En} : look (.slc a lo hi) X ρ = X.bind fun dm ρ => .ok dm.1 ρ := rfl
theorem lk_slc {a : Ex} {lo hi : List Ex} {X : R (D × Md)} {ρ : En} : look (.slc a lo hi) X ρ = X.bd fun dm ρ => .ok dm.1 ρ := lk_slc_
theorem cp_slc_ {a : Ex} {lo hi : List Ex} {X : R (D × Md)} {ρ : En} : cpy (.slc a lo hi) X ρ = X.bind fun dm ρ => .ok dm.1 ρ := rfl
theorem cp_slc {a : Ex} {lo hi : List Ex} {X : R (D × Md)} {ρ : En} : cpy (.slc a lo hi) X ρ = X.bd fun dm ρ => .ok dm.1 ρ := cp_slc_
theorem iv_slc {a : Ex} {lo hi : List Ex} : isVar (.slc a lo hi) = false := rfl
theorem lk_fld_ {a : Ex} {f : Str} {X : R (D × Md)} {ρ : En} : look (.fld a f) X ρ = X.bind fun dm ρ => .ok dm.1 ρ := rfl
theorem lk_fld {a : Ex} {f : Str} {X : R (D × Md)} {ρ : En} : look (.fld a f) X ρ = X.bd fun dm ρ => .ok dm.1 ρ := lk_fld_
theorem cp_fld_ {a : Ex} {f : Str} {X : R (D × Md)} {ρ : En} : cpy (.fld a f) X ρ = X.bind fun dm ρ => .ok dm.1 ρ := rfl
theorem cp_fld {a : Ex} {f : Str} {X : R (D × Md)} {ρ : En} : cpy (.fld a f) X ρ = X.bd fun dm ρ => .ok dm.1 ρ := cp_fld_
theorem iv_fld {a : Ex} {f : Str} : isVar (.fld a f) = false := rfl
theorem lk_call_ {f : Nat} {es : List Ex} {X : R (D × Md)} {ρ : En} : look (.call f es) X ρ = X.bind fun dm ρ => .ok dm.1 ρ := rfl
theorem lk_call {f : Nat} {es : List Ex} {X : R (D × Md)} {ρ : En} : look (.call f es) X ρ = X.bd fun dm ρ => .ok dm.1 ρ := lk_call_
theorem cp_call_ {f : Nat} {es : List Ex} {X : R (D × Md)} {ρ : En} : cpy (.call f es) X ρ = X.bind fun dm ρ => .ok dm.1 ρ := rfl
theorem cp_call {f : Nat} {es : List Ex} {X : R (D × Md)} {ρ : En} : cpy (.call f es) X ρ = X.bd fun dm ρ => .ok dm.1 ρ := cp_call_
theorem iv_call {f : Nat} {es : List Ex} : isVar (.call f es) = false := rfl
theorem lk_mk_ {f : Nat} {es : List Ex} {X : R (D × Md)} {ρ : En} : look (.mk f es) X ρ = X.bind fun dm ρ => .ok dm.1 ρ := rfl
theorem lk_mk {f : Nat} {es : List Ex} {X : R (D × Md)} {ρ : En} : look (.mk f es) X ρ = X.bd fun dm ρ => .ok dm.1 ρ := lk_mk_
theorem cp_mk_ {f : Nat} {es : List Ex} {X : R (D × Md)} {ρ : En} : cpy (.mk f es) X ρ = X.bind fun dm ρ => .ok dm.1 ρ := rfl
theorem cp_mk {f : Nat} {es : List Ex} {X : R (D × Md)} {ρ : En} : cpy (.mk f es) X ρ = X.bd fun dm ρ => .ok dm.1 ρ := cp_mk_
theorem iv_mk {f : Nat} {es : List Ex} : isVar (.mk f es) = false := rfl
theorem lk_meth_ {i : Nat} {m : Str} {es : List Ex} {X : R (D × Md)} {ρ : En} : look (.meth i m es) X ρ = X.bind fun dm ρ => .ok dm.1 ρ := rfl
theorem lk_meth {i : Nat} {m : Str} {es : List Ex} {X : R (D × Md)} {ρ : En} : look (.meth i m es) X ρ = X.bd fun dm ρ => .ok dm.1 ρ := lk_meth_
theorem cp_meth_ {i : Nat} {m : Str} {es : List Ex} {X : R (D × Md)} {ρ : En} : cpy (.meth i m es) X ρ = X.bind fun dm ρ => .ok dm.1 ρ := rfl
theorem cp_meth {i : Nat} {m : Str} {es : List Ex} {X : R (D × Md)} {ρ : En} : cpy (.meth i m es) X ρ = X.bd fun dm ρ => .ok dm.1 ρ := cp_meth_
theorem iv_meth {i : Nat} {m : Str} {es : List Ex} : isVar (.meth i m es) = false := rfl
theorem lk_bi_ {b : Bi} {es : List Ex} {X : R (D × Md)} {ρ : En} : look (.bi b es) X ρ = X.bind fun dm ρ => .ok dm.1 ρ := rfl
theorem lk_bi {b : Bi} {es : List Ex} {X : R (D × Md)} {ρ : En} : look (.bi b es) X ρ = X.bd fun dm ρ => .ok dm.1 ρ := lk_bi_
theorem cp_bi_ {b : Bi} {es : List Ex} {X : R (D × Md)} {ρ : En} : cpy (.bi b es) X ρ = X.bind fun dm ρ => .ok dm.1 ρ := rfl
theorem cp_bi {b : Bi} {es : List Ex} {X : R (D × Md)} {ρ : En} : cpy (.bi b es) X ρ = X.bd fun dm ρ => .ok dm.1 ρ := cp_bi_
theorem iv_bi {b : Bi} {es : List Ex} : isVar (.bi b es) = false := rfl
theorem lk_isI_ {a : Ex} {t : Ty} {X : R (D × Md)} {ρ : En} : look (.isI a t) X ρ = X.bind fun dm ρ => .ok dm.1 ρ := rfl
theorem lk_isI {a : Ex} {t : Ty} {X : R (D × Md)} {ρ : En} : look (.isI a t) X ρ = X.bd fun dm ρ => .ok dm.1 ρ := lk_isI_
theorem cp_isI_ {a : Ex} {t : Ty} {X : R (D × Md)} {ρ : En} : cpy (.isI a t) X ρ = X.bind fun dm ρ => .ok dm.1 ρ := rfl
theorem cp_isI {a : Ex} {t : Ty} {X : R (D × Md)} {ρ : En} : cpy (.isI a t) X ρ = X.bd fun dm ρ => .ok dm.1 ρ := cp_isI_
theorem iv_isI {a : Ex} {t : Ty} : isVar (.isI a t) = false := rfl
theorem lk_pop_ {i : Nat} {X : R (D × Md)} {ρ : En} : look (.pop i) X ρ = X.bind fun dm ρ => .ok dm.1 ρ := rfl
theorem lk_pop {i : Nat} {X : R (D × Md)} {ρ : En} : look (.pop i) X ρ = X.bd fun dm ρ => .ok dm.1 ρ := lk_pop_
theorem cp_pop_ {i : Nat} {X : R (D × Md)} {ρ : En} : cpy (.pop i) X ρ = X.bind fun dm ρ => .ok dm.1 ρ := rfl
theorem cp_pop {i : Nat} {X : R (D × Md)} {ρ : En} : cpy (.pop i) X ρ = X.bd fun dm ρ => .ok dm.1 ρ := cp_pop_
theorem iv_pop {i : Nat} : isVar (.pop i) = false := rfl
theorem lk_popAt_ {i : Nat} {e : Ex} {X : R (D × Md)} {ρ : En} : look (.popAt i e) X ρ = X.bind fun dm ρ => .ok dm.1 ρ := rfl
theorem lk_popAt {i : Nat} {e : Ex} {X : R (D × Md)} {ρ : En} : look (.popAt i e) X ρ = X.bd fun dm ρ => .ok dm.1 ρ := lk_popAt_
theorem cp_popAt_ {i : Nat} {e : Ex} {X : R (D × Md)} {ρ : En} : cpy (.popAt i e) X ρ = X.bind fun dm ρ => .ok dm.1 ρ := rfl
theorem cp_popAt {i : Nat} {e : Ex} {X : R (D × Md)} {ρ : En} : cpy (.popAt i e) X ρ = X.bd fun dm ρ => .ok dm.1 ρ := cp_popAt_
theorem iv_popAt {i : Nat} {e : Ex} : isVar (.popAt i e) = false := rfl
theorem lk_compR_ {own : List Nat} {tg : Nat} {as ifs : List Ex} {e : Ex} {X : R (D × Md)} {ρ : En} : look (.compR own tg as ifs e) X ρ = X.bind fun dm ρ => .ok dm.1 ρ := rfl
theorem lk_compR {own : List Nat} {tg : Nat} {as ifs : List Ex} {e : Ex} {X : R (D × Md)} {ρ : En} : look (.compR own tg as ifs e) X ρ = X.bd fun dm ρ => .ok dm.1 ρ := lk_compR_
theorem cp_compR_ {own : List Nat} {tg : Nat} {as ifs : List Ex} {e : Ex} {X : R (D × Md)} {ρ : En} : cpy (.compR own tg as ifs e) X ρ = X.bind fun dm ρ => .ok dm.1 ρ := rfl
theorem cp_compR {own : List Nat} {tg : Nat} {as ifs : List Ex} {e : Ex} {X : R (D × Md)} {ρ : En} : cpy (.compR own tg as ifs e) X ρ = X.bd fun dm ρ => .ok dm.1 ρ := cp_compR_
theorem iv_compR {own : List Nat} {tg : Nat} {as ifs : List Ex} {e : Ex} : isVar (.compR own tg as ifs e) = false := rfl
theorem lk_compL_ {own : List Nat} {tu : Bool} {tg : List Nat} {a : Ex} {ifs : List Ex} {e : Ex} {X : R (D × Md)} {ρ : En} : look (.compL own tu tg a ifs e) X ρ = X.bind fun dm ρ => .ok dm.1 ρ := rfl
theorem lk_compL {own : List Nat} {tu : Bool} {tg : List Nat} {a : Ex} {ifs : List Ex} {e : Ex} {X : R (D × Md)} {ρ : En} : look (.compL own tu tg a ifs e) X ρ = X.bd fun dm ρ => .ok dm.1 ρ := lk_compL_
theorem cp_compL_ {own : List Nat} {tu : Bool} {tg : List Nat} {a : Ex} {ifs : List Ex} {e : Ex} {X : R (D × Md)} {ρ : En} : cpy (.compL own tu tg a ifs e) X ρ = X.bind fun dm ρ => .ok dm.1 ρ := rfl
theorem cp_compL {own : List Nat} {tu : Bool} {tg : List Nat} {a : Ex} {ifs : List Ex} {e : Ex} {X : R (D × Md)} {ρ : En} : cpy (.compL own tu tg a ifs e) X ρ = X.bd fun dm ρ => .ok dm.1 ρ := cp_compL_
theorem iv_compL {own : List Nat} {tu : Bool} {tg : List Nat} {a : Ex} {ifs : List Ex} {e : Ex} : isVar (.compL own tu tg a ifs e) = false := rfl
theorem lk_sh_ {i : Nat} {X : R (D × Md)} {ρ : En} : look (.sh i) X ρ = X.bind fun dm ρ => .ok dm.1 ρ := rfl
theorem lk_sh {i : Nat} {X : R (D × Md)} {ρ : En} : look (.sh i) X ρ = X.bd fun dm ρ => .ok dm.1 ρ := lk_sh_
theorem cp_sh_ {i : Nat} {X : R (D × Md)} {ρ : En} : cpy (.sh i) X ρ = X.bind fun dm ρ => .ok dm.1 ρ := rfl
theorem cp_sh {i : Nat} {X : R (D × Md)} {ρ : En} : cpy (.sh i) X ρ = X.bd fun dm ρ => .ok dm.1 ρ := cp_sh_
theorem iv_sh {i : Nat} : isVar (.sh i) = false := rfl
theorem iv_var {i : Nat} : isVar (.var i) = true := rfl
theorem lk_var_ {i : Nat} {x : R (D × Md)} {ρ : En} : look (.var i) x ρ = (R.opt (slot ρ i) ρ).bind fun dm ρ => .ok dm.1 ρ := rfl
theorem lk_var {i : Nat} {x : R (D × Md)} {ρ : En} : look (.var i) x ρ = (R.opt (slot ρ i) ρ).bd fun dm ρ => .ok dm.1 ρ := lk_var_
def isNo (k : Bool) : D → Bool
  | .non => !k
  | _ => k
def trD : D → En → R Bool
  | .bl k, ρ => .ok k ρ
  | _, _ => .bad
def partD : D → En → R (Option Int)
  | .int i, ρ => .ok (some i) ρ
  | _, _ => .bad
def bndO : Option En → Fl
  | some ρ => .nx ρ
  | none => .bad
def augA : D → Fl → Fl
  | .int _, f => f
  | _, _ => .bad
def augB (op : Bop) : D → D → Nat → En → Fl
  | .int a, .int b, i, ρ => (match binD op (.int a) (.int b) with
    | some z => .nx (ρ.set i (some z))
    | none => .bad)
  | _, _, _, _ => .bad
def setIxD (i : Nat) (x : D × Md) (y : D) (ρ : En) : Fl := match y with
    | .int z => putL i ρ (fun xs => (ixN xs.length z).map fun j => xs.set j x.1) x
    | _ => .bad
def putS (i : Nat) (ρ : En) (o : Option (D × Md)) (f : List D → Option (List D)) (x : D × Md) : Fl := match o with
  | some (.lst xs, m) => if m = .rt ∨ m = .dp then (match f xs with
    | some ys => .nx (ρ.set i (some (.lst ys, if m = .dp ∧ x.2 = .dp then .dp else .rt)))
    | none => .bad) else .bad
  | _ => .bad
def augC (i : Nat) (op : Bop) (z : Int) (xs : List D) (a u : D) (ρ : En) : Fl := match a, u with
  | .int a, .int b => (match binD op (.int a) (.int b) with
    | some r => putL i ρ (fun xs => (ixN xs.length z).map fun j => xs.set j r.1) r
    | none => .bad)
  | _, _ => .bad
def augIxD (i : Nat) (op : Bop) (y : D) (o : Option (D × Md)) (e : En → R (D × Md)) (ρ : En) : Fl := match y, o with
    | .int z, some (.lst xs, _) => match atI xs z with
      | some (.int a) => (e ρ).fl fun u ρ => match u.1 with
        | .int b => match binD op (.int a) (.int b) with
          | some r => putL i ρ (fun xs => (ixN xs.length z).map fun j => xs.set j r.1) r
          | none => .bad
        | _ => .bad
      | _ => .bad
    | _, _ => .bad
def appD (i : Nat) (x : D × Md) (o : Option (D × Md)) (ρ : En) : Fl := putS i ρ o (fun xs => if xs.length < sizeLine then some (xs ++ [x.1]) else none) x
def forRD (i : Nat) (o : Option (Int × Nat)) (b : En → Fl) (ρ : En) : Fl := match o with
    | some (lo, n) => forGo (fun d ρ => match bindOne false [i] d ρ with
        | some ρ => b ρ
        | none => .bad) ((List.range n).map fun j => .int (lo + (j : Nat))) ρ
    | none => .bad
def forLD (tu : Bool) (is : List Nat) (x : D) (b : En → Fl) (ρ : En) : Fl := match x with
    | .lst ds => forGo (fun d ρ => match bindOne tu is d ρ with
        | some ρ => b ρ
        | none => .bad) ds ρ
    | .tup ds => forGo (fun d ρ => match bindOne tu is d ρ with
        | some ρ => b ρ
        | none => .bad) ds ρ
    | _ => .bad
def forRQ (i : Nat) (o : Option (Int × Nat)) (b : En → Fl) (_ : Tok b) (ρ : En) : Fl := forRD i o b ρ
def forRT (i : Nat) (o : Option (Int × Nat)) (b : En → Fl) (ρ : En) : Fl := forRD i o b ρ
theorem forR_eq {i : Nat} {o : Option (Int × Nat)} {b : En → Fl} {ρ : En} : forRT i o b ρ = forRQ i o b .mk ρ := rfl
def bndQ (o : Option En) (b : En → Fl) (_ : Tok b) : Fl := match o with
        | some ρ => b ρ
        | none => .bad
def bndT (tu : Bool) (is : List Nat) (d : D) (b : En → Fl) (t : Tok b) (ρ : En) : Fl := bndQ (bindOne tu is d ρ) b t
def forLQ (tu : Bool) (is : List Nat) (x : D) (b : En → Fl) (_ : Tok b) (ρ : En) : Fl := forLD tu is x b ρ
def forLT (tu : Bool) (is : List Nat) (x : D) (b : En → Fl) (ρ : En) : Fl := forLD tu is x b ρ
theorem forL_eq {tu : Bool} {is : List Nat} {x : D} {b : En → Fl} {ρ : En} : forLT tu is x b ρ = forLQ tu is x b .mk ρ := rfl
def augIxQ (i : Nat) (op : Bop) (y : D) (o : Option (D × Md)) (e : En → R (D × Md)) (_ : Tok e) (ρ : En) : Fl := augIxD i op y o e ρ
def augIxT (i : Nat) (op : Bop) (y : D) (o : Option (D × Md)) (e : En → R (D × Md)) (ρ : En) : Fl := augIxD i op y o e ρ
theorem augIx_eq {i : Nat} {op : Bop} {y : D} {o : Option (D × Md)} {e : En → R (D × Md)} {ρ : En} : augIxT i op y o e ρ = augIxQ i op y o e .mk ρ := rfl
def cturn (own : List Nat) (o : Option En) (g : En → R Bool) (e : En → R (D × Md)) (_ : Tok g) (_ : Tok e) : R (Option (D × Md)) := match o with
        | some ρ => (g ρ).bind fun k ρ => if k then (e ρ).bind fun x ρ => .ok (some x) (wipeE own ρ) else .ok none (wipeE own ρ)
        | none => .bad
def cmpRQ (own : List Nat) (tg : Nat) (o : Option (Int × Nat)) (g : En → R Bool) (e : En → R (D × Md)) (t : Tok g) (u : Tok e) (ρ : En) : R (D × Md) := match o with
    | some (lo, n) => (compGo (fun d ρ => cturn own (bindOne false [tg] d ρ) g e t u) ((List.range n).map fun j => .int (lo + (j : Nat))) [] (wipeE own ρ)).bind fun xs ρ => .ok (lstOf xs) ρ
    | none => .bad
def cmpRT (own : List Nat) (tg : Nat) (o : Option (Int × Nat)) (g : En → R Bool) (e : En → R (D × Md)) (ρ : En) : R (D × Md) := cmpRQ own tg o g e .mk .mk ρ
theorem cmpR_eq {own : List Nat} {tg : Nat} {o : Option (Int × Nat)} {g : En → R Bool} {e : En → R (D × Md)} {ρ : En} : cmpRT own tg o g e ρ = cmpRQ own tg o g e .mk .mk ρ := rfl
def cmpLQ (own : List Nat) (tu : Bool) (tg : List Nat) (x : D) (g : En → R Bool) (e : En → R (D × Md)) (t : Tok g) (u : Tok e) (ρ : En) : R (D × Md) := match x with
    | .lst ds => (compGo (fun d ρ => cturn own (bindOne tu tg d ρ) g e t u) ds [] (wipeE own ρ)).bind fun xs ρ => .ok (lstOf xs) ρ
    | _ => .bad
def cmpLT (own : List Nat) (tu : Bool) (tg : List Nat) (x : D) (g : En → R Bool) (e : En → R (D × Md)) (ρ : En) : R (D × Md) := cmpLQ own tu tg x g e .mk .mk ρ
theorem cmpL_eq {own : List Nat} {tu : Bool} {tg : List Nat} {x : D} {g : En → R Bool} {e : En → R (D × Md)} {ρ : En} : cmpLT own tu tg x g e ρ = cmpLQ own tu tg x g e .mk .mk ρ := rfl
def popG (i : Nat) (k : List D → Option Nat) (o : Option (D × Md)) (ρ : En) : R (D × Md) := match o with
    | some (.lst xs, m) => if m = .rt ∨ m = .dp then (match k xs with
      | some j => match xs[j]? with
        | some d => .ok (itemM d) (ρ.set i (some (.lst (xs.eraseIdx j), if m = .dp && imm d then .dp else .rt)))
        | none => .bad
      | none => .bad) else .bad
    | _ => .bad
def popS (i : Nat) (o : Option (D × Md)) (k : Option Int) (ρ : En) : R (D × Md) := match k with
  | none => popG i (fun xs => if xs.length = 0 then none else some (xs.length - 1)) o ρ
  | some k => popG i (fun xs => if decide (-(2 ^ 63) ≤ k) && decide (k < 2 ^ 63) then seqIndex? k xs.length else none) o ρ
def popK (i : Nat) (x : D) (o : Option (D × Md)) (ρ : En) : R (D × Md) := match x with
  | .int k => popS i o (some k) ρ
  | _ => .bad
def putCS (i : Nat) (y : D) (x : D × Md) (o : Option (D × Md)) (ρ : En) : Fl := match o with
  | some (.dK kvs, m) => if m = .rt ∨ m = .dp then (match keyOf y with
    | some k => if kvs.length < sizeLine then .nx (ρ.set i (some (.dK (putKD kvs k x.1), if m = .dp ∧ x.2 = .dp then .dp else .rt))) else .bad
    | none => .bad) else .bad
  | some (.dT kvs, m) => if m = .rt ∨ m = .dp then (match y with
    | .tup ks => (match keysOf ks with
      | some k => if kvs.length < sizeLine then .nx (ρ.set i (some (.dT (putKD kvs k x.1), if m = .dp ∧ x.2 = .dp then .dp else .rt))) else .bad
      | none => .bad)
    | _ => .bad) else .bad
  | _ => .bad
def fldD (P : Pg) (f : Str) (x : D) (ρ : En) : R (D × Md) := match x with
    | .ins c fs => if P.fo c f then (R.opt (fs.lookup f) ρ).bind fun z ρ => .ok (itemM z) ρ else .bad
    | _ => .bad
def setFD (P : Pg) (i : Nat) (f : Str) (x : D × Md) (o : Option (D × Md)) (ρ : En) : Fl := match o with
    | some (.ins c fs, m) => if (m = .rt ∨ m = .dp) ∧ fs.length < 999 ∧ P.fo c f = true then .nx (ρ.set i (some (.ins c (putFD f x.1 fs), if m = .dp ∧ x.2 = .dp then .dp else .rt))) else .bad
    | _ => .bad
def methC (P : Pg) (Γ : Ga) (i : Nat) (a : Option Nat) (b : Option D) (g : En → R (List VS.Arg)) (_ : Tok g) (ρ : En) : R (D × Md) := match a, b with
        | some f, none => (g ρ).bind fun as ρ => callD Γ f (P.io f) (.sl i :: as) ρ
        | _, _ => .bad
def methQ (P : Pg) (Γ : Ga) (i : Nat) (m : Str) (o : Option (D × Md)) (g : En → R (List VS.Arg)) (t : Tok g) (ρ : En) : R (D × Md) := match o with
      | some (.ins c fs, _) => methC P Γ i (P.mth c m) (fs.lookup m) g t ρ
      | _ => .bad
def methT (P : Pg) (Γ : Ga) (i : Nat) (m : Str) (o : Option (D × Md)) (g : En → R (List VS.Arg)) (ρ : En) : R (D × Md) := methQ P Γ i m o g .mk ρ
def clO (c : Nat) (fs : List (Str × D)) (ρ : En) (o : Option (Option Nat × Hx)) : Fl := match o with
      | some (oi, b) => if oi.all (fun i => decide (i < ρ.length)) then (match hxD fs b with
        | some d => .ret (itemM d) ρ
        | none => .bad) else .bad
      | none => .exc c fs ρ
def hxO (o : Option D) (ρ : En) : Fl := match o with
        | some d => .ret (itemM d) ρ
        | none => .bad
def triD (P : Pg) (hs : List (Nat × Option Nat × Hx)) (o : Fl) : Fl := match o with
    | .exc c fs ρ => if P.ek c && oneF (P.ef c) fs then clO c fs ρ (clause P c hs) else .bad
    | o => o
def endO (x : D × Md) (o : Option (List (Nat × (D × Md)))) : Rf := match o with
    | some os => .ok x os
    | none => .bad
theorem ints_map (ns : List Int) : intsD (ns.map .int) = some ns := by
  induction ns with
  | nil => rfl
  | cons a r ih => simp [intsD, ih]
def cntS (i : Nat) : List VS.Arg → Nat
  | [] => 0
  | .sl k :: r => (if k = i then 1 else 0) + cntS i r
  | .vl _ _ :: r => cntS i r
def aOk (al : List VS.Arg) : List VS.Arg → List Bool → Bool
  | .sl i :: r, true :: bs => decide (cntS i al = 1) && aOk al r bs
  | .vl _ _ :: r, true :: bs => aOk al r bs
  | _ :: r, false :: bs => aOk al r bs
  | _, _ => true
def puts (fr : Bool) : Nat → List VS.Arg → List Bool → List (Nat × (D × Md)) → En → En
  | j, .sl i :: r, true :: bs, outs, ρ => puts fr (j + 1) r bs outs (ρ.set i (outs.lookup j))
  | j, .sl i :: r, false :: bs, outs, ρ => puts fr (j + 1) r bs outs (if fr then ρ else ρ.set i ((slot ρ i).map fun dm => (dm.1, .fz)))
  | j, .vl _ _ :: r, _ :: bs, outs, ρ => puts fr (j + 1) r bs outs ρ
  | _, _, _, _, ρ => ρ
def cback (as : List VS.Arg) (io : List Bool) (x : Rf) (ρ : En) : R (D × Md) := match x with
      | .ok r outs => .ok r (puts (decide (r.2 = .dp) && outs.all fun o => decide (o.2.2 = .dp)) 0 as io outs ρ)
      | .exc c fs => .exc c fs (puts false 0 as io [] ρ)
      | .bad => .bad
theorem outOf_0 {a : VS.Arg} {r : List VS.Arg} {b : Bool} {bs : List Bool} {i : Nat} : outOf (a :: r) (b :: bs) 0 = some i ↔ a = .sl i ∧ b = true := by
  cases a <;> cases b <;> simp [outOf]
theorem outOf_s {a : VS.Arg} {r : List VS.Arg} {b : Bool} {bs : List Bool} {j : Nat} : outOf (a :: r) (b :: bs) (j + 1) = outOf r bs j := by
  simp [outOf]
theorem cnt_zero {i : Nat} : ∀ {al : List VS.Arg}, cntS i al = 0 ↔ ∀ j : Nat, al[j]? ≠ some (.sl i)
  | [] => by simp [cntS]
  | .vl d m :: r => by
    simp only [cntS, cnt_zero (al := r)]
    constructor
    · intro h j
      cases j with
      | zero => simp
      | succ j => simpa using h j
    · intro h j
      simpa using h (j + 1)
  | .sl k :: r => by
    simp only [cntS]
    constructor
    · intro h j
      have h2 : cntS i r = 0 := by omega
      have hk : k ≠ i := by intro e; simp [e] at h
      cases j with
      | zero => simp; exact hk
      | succ j => simpa using (cnt_zero (al := r)).mp h2 j
    · intro h
      have h2 : cntS i r = 0 := cnt_zero.mpr fun j => by simpa using h (j + 1)
      have hk : k ≠ i := by intro e; have := h 0; simp [e] at this
      simp [h2, hk]
theorem cnt_one {i : Nat} : ∀ {al : List VS.Arg} {j : Nat}, al[j]? = some (.sl i) → (cntS i al = 1 ↔ ∀ j' : Nat, j ≠ j' → al[j']? ≠ some (.sl i))
  | [], j, h => by simp at h
  | .vl d m :: r, 0, h => by simp at h
  | .vl d m :: r, j + 1, h => by
    have ih := cnt_one (al := r) (j := j) (by simpa using h)
    simp only [cntS, ih]
    constructor
    · intro q j' hj
      cases j' with
      | zero => simp
      | succ j' => simpa using q j' (by omega)
    · intro q j' hj
      simpa using q (j' + 1) (by omega)
  | .sl k :: r, 0, h => by
    have e : k = i := by simpa using h
    subst e
    simp only [cntS, if_true]
    constructor
    · intro q j' hj
      cases j' with
      | zero => exact absurd rfl hj
      | succ j' => simpa using cnt_zero.mp (by omega : cntS k r = 0) j'
    · intro q
      have : cntS k r = 0 := cnt_zero.mpr fun j' => by simpa using q (j' + 1) (by omega)
      omega
  | .sl k :: r, j + 1, h => by
    have ih := cnt_one (al := r) (j := j) (by simpa using h)
    simp only [cntS]
    constructor
    · intro q j' hj
      have h2 : ¬ cntS i r = 0 := fun z => cnt_zero.mp z j (by simpa using h)
      have hk : k ≠ i := by intro e; rw [if_pos e] at q; omega
      rw [if_neg hk] at q
      cases j' with
      | zero => simp; exact hk
      | succ j' => simpa using ih.mp (by omega) j' (by omega)
    · intro q
      have hk : k ≠ i := by
        intro e
        have := q 0 (by omega)
        simp [e] at this
      rw [if_neg hk, ih.mpr fun j' hj => by simpa using q (j' + 1) (by omega)]
theorem argsOk_iff {as : List VS.Arg} {io : List Bool} : VS.argsOk as io = true ↔ ∀ j i, outOf as io j = some i → ∀ j', j ≠ j' → as[j']? ≠ some (.sl i) := by
  unfold VS.argsOk
  rw [List.all_eq_true]
  constructor
  · intro h j i ho j' hj he
    have hl : j < as.length := by
      by_cases k : j < as.length
      · exact k
      · rw [outOf, List.getElem?_eq_none (by omega)] at ho
        cases ho
    have hl' : j' < as.length := (List.getElem?_eq_some_iff.mp he).1
    have := h j (List.mem_range.mpr hl)
    rw [ho] at this
    have := (List.all_eq_true.mp this) j' (List.mem_range.mpr hl')
    rw [he] at this
    simp [hj, isSl] at this
  · intro h j _
    cases ho : outOf as io j with
    | none => rfl
    | some i =>
      refine List.all_eq_true.mpr fun j' _ => ?_
      by_cases hj : j = j'
      · simp [hj]
      · have := h j i ho j' hj
        cases he : as[j']? with
        | none => simp
        | some a => cases a with
          | vl d m => simp [isSl]
          | sl k =>
            rw [he] at this
            have hk : k ≠ i := fun e => this (by rw [e])
            simp [isSl, hk]
theorem aOk_iff {al : List VS.Arg} : ∀ {as : List VS.Arg} {io : List Bool}, aOk al as io = true ↔ ∀ j i, outOf as io j = some i → cntS i al = 1
  | [], io => by simp [aOk, outOf]
  | a :: r, [] => by cases a <;> simp [aOk, outOf]
  | a :: r, b :: bs => by
    have ih := aOk_iff (al := al) (as := r) (io := bs)
    have key : (∀ j i, outOf (a :: r) (b :: bs) j = some i → cntS i al = 1) ↔ (∀ i, a = .sl i → b = true → cntS i al = 1) ∧ ∀ j i, outOf r bs j = some i → cntS i al = 1 := by
      constructor
      · intro h
        exact ⟨fun i h1 h2 => h 0 i (outOf_0.mpr ⟨h1, h2⟩), fun j i ho => h (j + 1) i (by rw [outOf_s]; exact ho)⟩
      · rintro ⟨h1, h2⟩ j i ho
        cases j with
        | zero => exact h1 i (outOf_0.mp ho).1 (outOf_0.mp ho).2
        | succ j => exact h2 j i (by rw [outOf_s] at ho; exact ho)
    rw [key, ← ih]
    cases a with
    | sl k => cases b <;> simp [aOk]
    | vl d m => cases b <;> simp [aOk]
theorem argsOk_eq {as : List VS.Arg} {io : List Bool} : VS.argsOk as io = aOk as as io := by
  rw [Bool.eq_iff_iff, argsOk_iff, aOk_iff]
  constructor
  · intro h j i ho
    have : as[j]? = some (.sl i) := by
      unfold outOf at ho
      split at ho
      · rename_i k h1 h2
        have := Option.some.inj ho
        subst this; exact h1
      · cases ho
    exact (cnt_one this).mpr (h j i ho)
  · intro h j i ho
    have : as[j]? = some (.sl i) := by
      unfold outOf at ho
      split at ho
      · rename_i k h1 h2
        have := Option.some.inj ho
        subst this; exact h1
      · cases ho
    exact (cnt_one this).mp (h j i ho)
theorem inAt_cons {a : VS.Arg} {r : List VS.Arg} {b : Bool} {bs : List Bool} {i : Nat} : inAt (a :: r) (b :: bs) i = if (isSl i a && b) = true then some 0 else (inAt r bs i).map (· + 1) := by
  have iff : (isSl i a && b) = true ↔ a = .sl i ∧ b = true := by cases a <;> cases b <;> simp [isSl]
  unfold inAt
  rw [List.length_cons, List.range_succ_eq_map, List.find?_cons]
  by_cases h : (isSl i a && b) = true
  · rw [if_pos h, decide_eq_true (outOf_0.mpr (iff.mp h))]
  · rw [if_neg h, decide_eq_false fun e => h (iff.mpr (outOf_0.mp e)), List.find?_map]
    congr 2
theorem argsD_len {ρ : En} : ∀ {as : List VS.Arg} {io : List Bool} {ds : List (D × Md)}, argsD ρ as io = some ds → as.length = io.length
  | [], [], _, _ => rfl
  | [], _ :: _, _, h => by cases h
  | _ :: _, [], _, h => by cases h
  | a :: r, b :: bs, ds, h => by
    unfold argsD at h
    cases ha : argD ρ a b with
    | none => rw [ha] at h; cases h
    | some d =>
      rw [ha] at h
      cases hr : argsD ρ r bs with
      | none =>
        rw [Option.bind_some, hr] at h
        cases h
      | some q => simp [argsD_len hr]
theorem puts_at {fr : Bool} {outs : List (Nat × (D × Md))} : ∀ {as : List VS.Arg} {io : List Bool} {j : Nat} {ρ : En}, as.length = io.length → (∀ j i, outOf as io j = some i → ∀ j', j ≠ j' → as[j']? ≠ some (.sl i)) →
    ∀ i, (puts fr j as io outs ρ)[i]? = (ρ[i]?).map fun x => match inAt as io i with
      | some k => outs.lookup (j + k)
      | none => if as.any (isSl i) && !fr then x.map (fun dm => (dm.1, .fz)) else x
  | [], [], j, ρ, _, _, i => by
    show ρ[i]? = _
    cases ρ[i]? <;> simp [inAt]
  | [], _ :: _, _, _, h, _, _ => by simp at h
  | _ :: _, [], _, _, h, _, _ => by simp at h
  | a :: r, b :: bs, j, ρ, hl, h, i => by
    have ht : ∀ j i, outOf r bs j = some i → ∀ j', j ≠ j' → r[j']? ≠ some (.sl i) := fun j i ho j' hj => by
      have := h (j + 1) i (by rw [outOf_s]; exact ho) (j' + 1) (by omega)
      simpa using this
    have hl' : r.length = bs.length := by simpa using hl
    rw [inAt_cons]
    have lk : ∀ o : Option Nat, (match o.map (· + 1) with
      | some k => outs.lookup (j + k)
      | none => none) = match o with
      | some k => outs.lookup (j + 1 + k)
      | none => none := fun o => by
      cases o with
      | none => rfl
      | some k => simp only [Option.map_some]; congr 1; omega
    cases a with
    | vl d m =>
      have ih := puts_at (fr := fr) (outs := outs) (j := j + 1) (ρ := ρ) hl' ht i
      have e : puts fr j (.vl d m :: r) (b :: bs) outs ρ = puts fr (j + 1) r bs outs ρ := by simp only [puts]
      rw [e, ih, if_neg (show ¬ (isSl i (VS.Arg.vl d m) && b) = true by simp [isSl])]
      cases ρ[i]? with
      | none => rfl
      | some x =>
        simp only [Option.map_some, List.any_cons, isSl, Bool.false_or]
        cases inAt r bs i with
        | none => rfl
        | some k => simp only [Option.map_some]; congr 2; omega
    | sl k =>
      cases b with
      | true =>
        have ih := puts_at (fr := fr) (outs := outs) (j := j + 1) (ρ := ρ.set k (outs.lookup j)) hl' ht i
        have e : puts fr j (.sl k :: r) (true :: bs) outs ρ = puts fr (j + 1) r bs outs (ρ.set k (outs.lookup j)) := by simp only [puts]
        rw [e, ih]
        have nk : ∀ j' : Nat, r[j']? ≠ some (VS.Arg.sl k) := fun j' => by
          have := h 0 k (outOf_0.mpr ⟨rfl, rfl⟩) (j' + 1) (by omega)
          simpa using this
        by_cases hk : k = i
        · subst hk
          have n1 : inAt r bs k = none := by
            unfold inAt
            rw [List.find?_eq_none]
            intro j' _ e
            have e := of_decide_eq_true e
            unfold outOf at e
            split at e
            · rename_i k2 h1 h2
              have := Option.some.inj e
              subst this
              exact nk j' h1
            · cases e
          have n2 : r.any (isSl k) = false := by
            rw [List.any_eq_false]
            intro x hx e
            obtain ⟨j', hj, rfl⟩ := List.mem_iff_getElem.mp hx
            cases hq : r[j'] with
            | vl d m => rw [hq] at e; simp [isSl] at e
            | sl k2 =>
              rw [hq] at e
              have : k2 = k := by simpa [isSl] using e
              subst this
              exact nk j' (by rw [List.getElem?_eq_getElem hj, hq])
          rw [n1, n2]
          by_cases hi : k < ρ.length
          · simp [hi, isSl]
          · simp [hi]
        · rw [List.getElem?_set_ne hk]
          cases ρ[i]? with
          | none => rfl
          | some x =>
            simp only [Option.map_some, List.any_cons, isSl, hk, decide_false, Bool.false_or]
            rw [if_neg (show ¬ (false && true) = true by simp)]
            cases inAt r bs i with
            | none => rfl
            | some k => simp only [Option.map_some]; congr 2; omega
      | false =>
        have e : puts fr j (.sl k :: r) (false :: bs) outs ρ = puts fr (j + 1) r bs outs (if fr then ρ else ρ.set k ((slot ρ k).map fun dm => (dm.1, .fz))) := by simp only [puts]
        have ih := puts_at (fr := fr) (outs := outs) (j := j + 1) (ρ := if fr then ρ else ρ.set k ((slot ρ k).map fun dm => (dm.1, .fz))) hl' ht i
        rw [e, ih, if_neg (show ¬ (isSl i (VS.Arg.sl k) && false) = true by simp)]
        have lk2 : ∀ (o : Option Nat) (u : Option (D × Md)), (match o.map (· + 1) with
            | some k => outs.lookup (j + k)
            | none => u) = match o with
            | some k => outs.lookup (j + 1 + k)
            | none => u := fun o u => by
          cases o with
          | none => rfl
          | some k => simp only [Option.map_some]; congr 1; omega
        cases fr with
        | true =>
          simp only [if_true, Bool.not_true, Bool.and_false, Bool.false_eq_true, if_false]
          cases ρ[i]? with
          | none => rfl
          | some x => simp only [Option.map_some, lk2]
        | false =>
          simp only [Bool.false_eq_true, if_false, Bool.not_false, Bool.and_true]
          by_cases hk : k = i
          · subst hk
            have n1 : inAt r bs k = none := by
              unfold inAt
              rw [List.find?_eq_none]
              intro j' _ e
              have e := of_decide_eq_true e
              exact h (j' + 1) k (by rw [outOf_s]; exact e) 0 (by omega) rfl
            by_cases hi : k < ρ.length
            · simp only [List.getElem?_set_self hi, List.getElem?_eq_getElem hi, Option.map_some, n1, Option.map_none, List.any_cons, isSl, decide_true, Bool.true_or, if_true, slot, Option.bind_some, id]
              split
              · cases ρ[k] <;> rfl
              · rfl
            · rw [List.getElem?_eq_none (by simp; omega), List.getElem?_eq_none (by omega)]
              rfl
          · rw [List.getElem?_set_ne hk]
            cases ρ[i]? with
            | none => rfl
            | some x => simp only [Option.map_some, lk2, List.any_cons, isSl, hk, decide_false, Bool.false_or]
theorem puts_eq {fr : Bool} {as : List VS.Arg} {io : List Bool} {outs : List (Nat × (D × Md))} {ρ : En} (hl : as.length = io.length) (h : aOk as as io = true) : putOuts fr as io outs ρ = puts fr 0 as io outs ρ := by
  rw [← argsOk_eq, argsOk_iff] at h
  refine List.ext_getElem? fun i => ?_
  rw [puts_at hl h i]
  unfold putOuts
  rw [List.getElem?_mapIdx]
  cases ρ[i]? with
  | none => rfl
  | some x =>
    simp only [Option.map_some, Nat.zero_add] <;> rfl
theorem call_eq0 {Γ : Ga} {f : Nat} {io : List Bool} {as : List VS.Arg} {ρ : En} : callD Γ f io as ρ = if aOk as as io then (R.opt (argsD ρ as io) ρ).bind fun ds ρ => cback as io (Γ f ds) ρ else .bad := by
  rw [callD, argsOk_eq]
  by_cases h : aOk as as io = true
  · rw [if_pos h, if_pos h]
    cases ha : argsD ρ as io with
    | none => rfl
    | some ds =>
      have hl := argsD_len ha
      show (match Γ f ds with
        | .ok r outs => _
        | .exc c fs => _
        | .bad => _) = cback as io (Γ f ds) ρ
      cases Γ f ds with
      | ok r outs =>
        show R.ok r _ = R.ok r _
        rw [puts_eq hl h]
      | exc c fs =>
        show R.exc c fs _ = R.exc c fs _
        rw [puts_eq hl h]
      | bad => rfl
  · rw [if_neg h, if_neg h]
def mback1 (o : Option (D × Md)) (ρ : En) : R (D × Md) := match o with
  | some o => .ok o ρ
  | none => .bad
def mback (as : List VS.Arg) (io : List Bool) (x : Rf) (ρ : En) : R (D × Md) := match x with
      | .ok r outs => (match r.1 with
        | .non => mback1 (outs.lookup 0) (puts (decide (r.2 = .dp) && outs.all fun o => decide (o.2.2 = .dp)) 0 as io outs ρ)
        | _ => .bad)
      | .exc c fs => .exc c fs (puts false 0 as io [] ρ)
      | .bad => .bad
theorem mk_eq0 {Γ : Ga} {c f : Nat} {io : List Bool} {as : List VS.Arg} {ρ : En} : mkD Γ c f io as ρ = if aOk (.vl (.ins c []) .dp :: as) (.vl (.ins c []) .dp :: as) io && decide (io[0]? = some true) then (R.opt (argsD ρ (.vl (.ins c []) .dp :: as) io) ρ).bind fun ds ρ => mback (.vl (.ins c []) .dp :: as) io (Γ f ds) ρ else .bad := by
  rw [← argsOk_eq]
  unfold mkD
  dsimp only
  by_cases h : (VS.argsOk (.vl (.ins c []) .dp :: as) io && decide (io[0]? = some true)) = true
  · rw [if_pos h, if_pos h]
    have hk := (Bool.and_eq_true_iff.mp h).1
    rw [argsOk_eq] at hk
    cases ha : argsD ρ (.vl (.ins c []) .dp :: as) io with
    | none => rfl
    | some ds =>
      have hl := argsD_len ha
      show (match Γ f ds with
        | .ok r outs => _
        | .exc c fs => _
        | .bad => _) = mback (.vl (.ins c []) .dp :: as) io (Γ f ds) ρ
      cases Γ f ds with
      | ok r outs =>
        unfold mback
        obtain ⟨d, m⟩ := r
        cases d <;> (dsimp only; try rfl)
        cases outs.lookup 0 with
        | none => rfl
        | some o =>
          show R.ok o _ = R.ok o _
          rw [puts_eq hl hk]
      | exc c fs =>
        show R.exc c fs _ = R.exc c fs _
        rw [puts_eq hl hk]
      | bad => rfl
  · rw [if_neg h, if_neg h]
def cpS (o : Option (D × Md)) (i : Nat) (ρ : En) : R D := match o with
    | some (d, .dp) => if kids d then .ok d ρ else .ok d (ρ.set i (some (d, .rt)))
    | some (d, .fz) => .ok d ρ
    | some (d, .rt) => .ok d ρ
    | _ => .bad
def rdS (o : Option (D × Md)) (i : Nat) (ρ : En) : R (D × Md) := match o with
  | some (d, m) => if imm d then .ok (d, .dp) ρ else .ok (d, .fz) (ρ.set i (some (d, .fz)))
  | none => .bad
def mvS (o : Option (D × Md)) (i : Nat) (ρ : En) : R (D × Md) := match o with
  | some (d, m) => if imm d then .ok (d, .dp) ρ else .ok (d, m) (ρ.set i none)
  | none => .bad
theorem cp_var {i : Nat} {x : R (D × Md)} {ρ : En} : cpy (.var i) x ρ = cpS (slot ρ i) i ρ := rfl
theorem cpS_dp {d : D} {i : Nat} {ρ : En} : cpS (some (d, .dp)) i ρ = if kids d then .ok d ρ else .ok d (ρ.set i (some (d, .rt))) := rfl
theorem cpS_fz {d : D} {i : Nat} {ρ : En} : cpS (some (d, .fz)) i ρ = .ok d ρ := rfl
theorem cpS_rt {d : D} {i : Nat} {ρ : En} : cpS (some (d, .rt)) i ρ = .ok d ρ := rfl
theorem rdS_s {d : D} {m : Md} {i : Nat} {ρ : En} : rdS (some (d, m)) i ρ = if imm d then .ok (d, .dp) ρ else .ok (d, .fz) (ρ.set i (some (d, .fz))) := rfl
theorem mvS_s {d : D} {m : Md} {i : Nat} {ρ : En} : mvS (some (d, m)) i ρ = if imm d then .ok (d, .dp) ρ else .ok (d, m) (ρ.set i none) := rfl
theorem ef_int {P : Pg} {i : Int} : eff P (.int i) = (false) := by simp only [eff]
theorem ef_str {P : Pg} {x : Str} : eff P (.str x) = (false) := by simp only [eff]
theorem ef_bl {P : Pg} {b : Bool} : eff P (.bl b) = (false) := by simp only [eff]
theorem ef_non {P : Pg}  : eff P (.non) = (false) := by simp only [eff]
theorem ef_mv {P : Pg} {i : Nat} : eff P (.mv i) = (false) := by simp only [eff]
theorem ef_bin {P : Pg} {op : Bop} {a b : Ex} : eff P (.bin op a b) = (eff P a || eff P b) := by simp only [eff]
theorem ef_neg {P : Pg} {a : Ex} : eff P (.neg a) = (eff P a) := by simp only [eff]
theorem ef_cmp {P : Pg} {op : Cop} {a b : Ex} : eff P (.cmp op a b) = (eff P a || eff P b) := by simp only [eff]
theorem ef_chain {P : Pg} {op op2 : Cop} {a b c : Ex} : eff P (.chain op op2 a b c) = (eff P a || eff P b || eff P c) := by simp only [eff]
theorem ef_isN {P : Pg} {k : Bool} {a : Ex} : eff P (.isN k a) = (eff P a) := by simp only [eff]
theorem ef_and {P : Pg} {es : List Ex} : eff P (.and es) = (effL P es) := by simp only [eff]
theorem ef_or {P : Pg} {es : List Ex} : eff P (.or es) = (effL P es) := by simp only [eff]
theorem ef_not {P : Pg} {a : Ex} : eff P (.not a) = (eff P a) := by simp only [eff]
theorem ef_ife {P : Pg} {t a b : Ex} : eff P (.ife t a b) = (eff P t || eff P a || eff P b) := by simp only [eff]
theorem ef_lst {P : Pg} {es : List Ex} : eff P (.lst es) = (effL P es) := by simp only [eff]
theorem ef_tup {P : Pg} {es : List Ex} : eff P (.tup es) = (effL P es) := by simp only [eff]
theorem ef_dK0 {P : Pg}  : eff P (.dK0) = (false) := by simp only [eff]
theorem ef_dT0 {P : Pg}  : eff P (.dT0) = (false) := by simp only [eff]
theorem ef_ix {P : Pg} {a b : Ex} : eff P (.ix a b) = (eff P a || eff P b) := by simp only [eff]
theorem ef_slc {P : Pg} {a : Ex} {lo hi : List Ex} : eff P (.slc a lo hi) = (eff P a || effL P lo || effL P hi) := by simp only [eff]
theorem ef_fld {P : Pg} {a : Ex} {f : Str} : eff P (.fld a f) = (eff P a) := by simp only [eff]
theorem ef_call {P : Pg} {f : Nat} {es : List Ex} : eff P (.call f es) = ((P.io f).any id || effL P es) := by simp only [eff]
theorem ef_mk {P : Pg} {f : Nat} {es : List Ex} : eff P (.mk f es) = ((P.io (P.ini f)).any id || effL P es) := by simp only [eff]
theorem ef_meth {P : Pg} {i : Nat} {m : Str} {es : List Ex} : eff P (.meth i m es) = (true) := by simp only [eff]
theorem ef_bi {P : Pg} {b : Bi} {es : List Ex} : eff P (.bi b es) = (effL P es) := by simp only [eff]
theorem ef_isI {P : Pg} {a : Ex} {t : Ty} : eff P (.isI a t) = (eff P a) := by simp only [eff]
theorem ef_pop {P : Pg} {i : Nat} : eff P (.pop i) = (true) := by simp only [eff]
theorem ef_popAt {P : Pg} {i : Nat} {e : Ex} : eff P (.popAt i e) = (true) := by simp only [eff]
theorem ef_compR {P : Pg} {own : List Nat} {tg : Nat} {as ifs : List Ex} {e : Ex} : eff P (.compR own tg as ifs e) = (effL P as || effL P ifs || eff P e) := by simp only [eff]
theorem ef_compL {P : Pg} {own : List Nat} {tu : Bool} {tg : List Nat} {a : Ex} {ifs : List Ex} {e : Ex} : eff P (.compL own tu tg a ifs e) = (eff P a || effL P ifs || eff P e) := by simp only [eff]
theorem ef_sh {P : Pg} {i : Nat} : eff P (.sh i) = (false) := by simp only [eff]
theorem ef_var {P : Pg} {i : Nat} : eff P (.var i) = (false) := by simp only [eff]
theorem ef_nil {P : Pg} : effL P [] = false := by simp only [effL]
theorem ef_cons {P : Pg} {e : Ex} {r : List Ex} : effL P (e :: r) = (eff P e || effL P r) := by simp only [effL]
theorem kept_eq {P : Pg} {a b : Ex} {d : D} : keptL P a b d = (!isVar a || !eff P b || prim d) := rfl
theorem pr_non  : prim .non = true := rfl
theorem im_non  : imm .non = true := rfl
theorem kd_non  : kids .non = true := rfl
theorem pr_bl {b : Bool} : prim (.bl b) = true := rfl
theorem im_bl {b : Bool} : imm (.bl b) = true := rfl
theorem kd_bl {b : Bool} : kids (.bl b) = true := rfl
theorem pr_int {i : Int} : prim (.int i) = true := rfl
theorem im_int {i : Int} : imm (.int i) = true := rfl
theorem kd_int {i : Int} : kids (.int i) = true := rfl
theorem pr_str {x : Str} : prim (.str x) = true := rfl
theorem im_str {x : Str} : imm (.str x) = true := rfl
theorem kd_str {x : Str} : kids (.str x) = true := rfl
theorem pr_lst {xs : List D} : prim (.lst xs) = false := rfl
theorem im_lst {xs : List D} : imm (.lst xs) = false := by simp only [imm]
theorem pr_tup {xs : List D} : prim (.tup xs) = false := rfl
theorem pr_ins {c : Nat} {fs : List (Str × D)} : prim (.ins c fs) = false := rfl
theorem im_ins {c : Nat} {fs : List (Str × D)} : imm (.ins c fs) = false := by simp only [imm]
theorem pr_dK {kvs : List (Key × D)} : prim (.dK kvs) = false := rfl
theorem im_dK {kvs : List (Key × D)} : imm (.dK kvs) = false := by simp only [imm]
theorem pr_dT {kvs : List (List Key × D)} : prim (.dT kvs) = false := rfl
theorem im_dT {kvs : List (List Key × D)} : imm (.dT kvs) = false := by simp only [imm]
theorem im_tup {xs : List D} : imm (.tup xs) = immL xs := by simp only [imm]
theorem kd_lst {xs : List D} : kids (.lst xs) = immL xs := rfl
theorem kd_tup {xs : List D} : kids (.tup xs) = immL xs := rfl
theorem kd_ins {c : Nat} {fs : List (Str × D)} : kids (.ins c fs) = immF fs := rfl
theorem kd_dK {kvs : List (Key × D)} : kids (.dK kvs) = immK kvs := rfl
theorem kd_dT {kvs : List (List Key × D)} : kids (.dT kvs) = immK kvs := rfl
theorem iml_nil : immL [] = true := by simp only [immL]
theorem iml_cons {d : D} {r : List D} : immL (d :: r) = (imm d && immL r) := by simp only [immL]
theorem iml_app {xs ys : List D} : immL (xs ++ ys) = (immL xs && immL ys) := by induction xs with
  | nil => simp [immL]
  | cons d r ih => simp [immL, ih, Bool.and_assoc]
theorem iml_int {ns : List Int} : immL (ns.map D.int) = true := by induction ns with
  | nil => simp [immL]
  | cons d r ih => simp [immL, imm, ih]
theorem iml_pr {ns : List (Int × Int)} : immL (ns.map VS.prD) = true := by induction ns with
  | nil => simp [immL]
  | cons d r ih => simp [immL, imm, VS.prD, ih]
theorem iml_map {α : Type} {f : α → D} (h : ∀ x, imm (f x) = true) (l : List α) : immL (l.map f) = true := by
  induction l with
  | nil => simp [immL]
  | cons d r ih => simp [immL, h, ih]
def negD : D → En → R (D × Md)
  | .int i, ρ => .ok (.int (-i), .dp) ρ
  | _, _ => .bad
section
variable {P : Pg} {Γ : Ga} {ρ : En}
theorem e_int {i : Int} : ev P Γ (.int i) ρ = (.ok (.int i, .dp) ρ) := rfl
theorem e_str {x : Str} : ev P Γ (.str x) ρ = (.ok (.str x, .dp) ρ) := rfl
theorem e_bl {b : Bool} : ev P Γ (.bl b) ρ = (.ok (.bl b, .dp) ρ) := rfl
theorem e_non  : ev P Γ (.non) ρ = (.ok (.non, .dp) ρ) := rfl
theorem e_mv {i : Nat} : ev P Γ (.mv i) ρ = (mvS (slot ρ i) i ρ) := rfl
theorem e_bin_ {op : Bop} {a b : Ex} : ev P Γ (.bin op a b) ρ = ((cpy a (ev P Γ a ρ) ρ).bind fun x ρ => (cpy b (ev P Γ b ρ) ρ).bind fun y ρ => if keptL P a b x then R.opt (binD op x y) ρ else .bad) := rfl
theorem e_bin {op : Bop} {a b : Ex} : ev P Γ (.bin op a b) ρ = ((cpy a (ev P Γ a ρ) ρ).bd fun x ρ => (cpy b (ev P Γ b ρ) ρ).bd fun y ρ => if keptL P a b x then R.opt (binD op x y) ρ else .bad) := e_bin_
theorem e_neg_ {a : Ex} : ev P Γ (.neg a) ρ = ((look a (ev P Γ a ρ) ρ).bind fun x ρ => negD x ρ) := by
  show (look a (ev P Γ a ρ) ρ).bind _ = _
  cases look a (ev P Γ a ρ) ρ with
  | ok v ρ => cases v <;> rfl
  | _ => rfl
theorem e_neg {a : Ex} : ev P Γ (.neg a) ρ = ((look a (ev P Γ a ρ) ρ).bd fun x ρ => negD x ρ) := e_neg_
theorem e_cmp_ {op : Cop} {a b : Ex} : ev P Γ (.cmp op a b) ρ = ((tr P Γ (.cmp op a b) ρ).bind fun k ρ => .ok (.bl k, .dp) ρ) := by
  rw [tr_cmp]
  show ((look a (ev P Γ a ρ) ρ).bind fun x ρ => (look b (ev P Γ b ρ) ρ).bind fun y ρ => if keptL P a b x then (R.opt (cmpD op x y) ρ).bind fun k ρ => .ok ((.bl k, .dp) : D × Md) ρ else .bad) = _
  cases look a (ev P Γ a ρ) ρ with
  | ok v ρ =>
    dsimp only [R.bind]
    cases look b (ev P Γ b ρ) ρ with
    | ok y ρ =>
      dsimp only [R.bind]
      split
      · rfl
      · rfl
    | _ => rfl
  | _ => rfl
theorem e_cmp {op : Cop} {a b : Ex} : ev P Γ (.cmp op a b) ρ = ((tr P Γ (.cmp op a b) ρ).bd fun k ρ => .ok (.bl k, .dp) ρ) := e_cmp_
theorem e_and_ {es : List Ex} : ev P Γ (.and es) ρ = ((evAnd P Γ es ρ).bind fun k ρ => .ok (.bl k, .dp) ρ) := rfl
theorem e_and {es : List Ex} : ev P Γ (.and es) ρ = ((evAnd P Γ es ρ).bd fun k ρ => .ok (.bl k, .dp) ρ) := e_and_
theorem e_or_ {es : List Ex} : ev P Γ (.or es) ρ = ((evOr P Γ es ρ).bind fun k ρ => .ok (.bl k, .dp) ρ) := rfl
theorem e_or {es : List Ex} : ev P Γ (.or es) ρ = ((evOr P Γ es ρ).bd fun k ρ => .ok (.bl k, .dp) ρ) := e_or_
theorem e_not_ {a : Ex} : ev P Γ (.not a) ρ = ((tr P Γ a ρ).bind fun k ρ => .ok (.bl (!k), .dp) ρ) := by
  unfold tr
  show (look a (ev P Γ a ρ) ρ).bind _ = _
  cases look a (ev P Γ a ρ) ρ with
  | ok v ρ => cases v <;> rfl
  | _ => rfl
theorem e_not {a : Ex} : ev P Γ (.not a) ρ = ((tr P Γ a ρ).bd fun k ρ => .ok (.bl (!k), .dp) ρ) := e_not_
theorem e_ife_ {t a b : Ex} : ev P Γ (.ife t a b) ρ = ((tr P Γ t ρ).bind fun k ρ => if k then ev P Γ a ρ else ev P Γ b ρ) := by
  unfold tr
  show (look t (ev P Γ t ρ) ρ).bind _ = _
  cases look t (ev P Γ t ρ) ρ with
  | ok v ρ => cases v with
    | bl k => cases k <;> rfl
    | _ => rfl
  | _ => rfl
theorem e_ife {t a b : Ex} : ev P Γ (.ife t a b) ρ = ((tr P Γ t ρ).bd fun k ρ => if k then ev P Γ a ρ else ev P Γ b ρ) := e_ife_
theorem e_lst_ {es : List Ex} : ev P Γ (.lst es) ρ = ((evL P Γ es ρ).bind fun xs ρ => if xs.length ≤ 16777216 then .ok (lstOf xs) ρ else .bad) := by
  show (evL P Γ es ρ).bind _ = _
  congr 1
  funext xs ρ
  by_cases h : xs.length ≤ 16777216 <;> simp [h, show sizeLine = 16777216 from rfl]
theorem e_lst {es : List Ex} : ev P Γ (.lst es) ρ = ((evL P Γ es ρ).bd fun xs ρ => if xs.length ≤ 16777216 then .ok (lstOf xs) ρ else .bad) := e_lst_
theorem e_tup_ {es : List Ex} : ev P Γ (.tup es) ρ = ((evL P Γ es ρ).bind fun xs ρ => if xs.length ≤ 16777216 then .ok (tupOf xs) ρ else .bad) := by
  show (evL P Γ es ρ).bind _ = _
  congr 1
  funext xs ρ
  by_cases h : xs.length ≤ 16777216 <;> simp [h, show sizeLine = 16777216 from rfl]
theorem e_tup {es : List Ex} : ev P Γ (.tup es) ρ = ((evL P Γ es ρ).bd fun xs ρ => if xs.length ≤ 16777216 then .ok (tupOf xs) ρ else .bad) := e_tup_
theorem e_dK0  : ev P Γ (.dK0) ρ = (.ok (.dK [], .dp) ρ) := rfl
theorem e_dT0  : ev P Γ (.dT0) ρ = (.ok (.dT [], .dp) ρ) := rfl
theorem e_ix_ {a b : Ex} : ev P Γ (.ix a b) ρ = ((cpy a (ev P Γ a ρ) ρ).bind fun x ρ => (look b (ev P Γ b ρ) ρ).bind fun y ρ => if keptL P a b x then (R.opt (ixD x y) ρ).bind fun z ρ => .ok (itemM z) ρ else .bad) := rfl
theorem e_ix {a b : Ex} : ev P Γ (.ix a b) ρ = ((cpy a (ev P Γ a ρ) ρ).bd fun x ρ => (look b (ev P Γ b ρ) ρ).bd fun y ρ => if keptL P a b x then (R.opt (ixD x y) ρ).bd fun z ρ => .ok (itemM z) ρ else .bad) := e_ix_
theorem e_slc_ {a : Ex} {lo hi : List Ex} : ev P Γ (.slc a lo hi) ρ = ((cpy a (ev P Γ a ρ) ρ).bind fun x ρ => (evPart P Γ lo ρ).bind fun l ρ => (evPart P Γ hi ρ).bind fun h ρ => if !isVar a || (!effL P lo && !effL P hi) then R.opt (slcD x l h) ρ else .bad) := rfl
theorem e_slc {a : Ex} {lo hi : List Ex} : ev P Γ (.slc a lo hi) ρ = ((cpy a (ev P Γ a ρ) ρ).bd fun x ρ => (evPart P Γ lo ρ).bd fun l ρ => (evPart P Γ hi ρ).bd fun h ρ => if !isVar a || (!effL P lo && !effL P hi) then R.opt (slcD x l h) ρ else .bad) := e_slc_
theorem e_fld_ {a : Ex} {f : Str} : ev P Γ (.fld a f) ρ = ((cpy a (ev P Γ a ρ) ρ).bind fun x ρ => fldD P f x ρ) := by
  show (cpy a (ev P Γ a ρ) ρ).bind _ = _
  cases cpy a (ev P Γ a ρ) ρ with
  | ok x ρ => cases x <;> rfl
  | _ => rfl
theorem e_fld {a : Ex} {f : Str} : ev P Γ (.fld a f) ρ = ((cpy a (ev P Γ a ρ) ρ).bd fun x ρ => fldD P f x ρ) := e_fld_
theorem e_call_ {f : Nat} {es : List Ex} : ev P Γ (.call f es) ρ = ((evArgs P Γ es ρ).bind fun as ρ => callD Γ f (P.io f) as ρ) := rfl
theorem e_call {f : Nat} {es : List Ex} : ev P Γ (.call f es) ρ = ((evArgs P Γ es ρ).bd fun as ρ => callD Γ f (P.io f) as ρ) := e_call_
theorem e_mk_ {f : Nat} {es : List Ex} : ev P Γ (.mk f es) ρ = ((evArgs P Γ es ρ).bind fun as ρ => mkD Γ f (P.ini f) (P.io (P.ini f)) as ρ) := rfl
theorem e_mk {f : Nat} {es : List Ex} : ev P Γ (.mk f es) ρ = ((evArgs P Γ es ρ).bd fun as ρ => mkD Γ f (P.ini f) (P.io (P.ini f)) as ρ) := e_mk_
theorem e_meth {i : Nat} {m : Str} {es : List Ex} : ev P Γ (.meth i m es) ρ = (methT P Γ i m (slot ρ i) (fun ρ => evArgs P Γ es ρ) ρ) := rfl
theorem e_bi_ {b : Bi} {es : List Ex} : ev P Γ (.bi b es) ρ = ((evLook P Γ b.cp es ρ).bind fun xs ρ => R.opt (biD b xs) ρ) := rfl
theorem e_bi {b : Bi} {es : List Ex} : ev P Γ (.bi b es) ρ = ((evLook P Γ b.cp es ρ).bd fun xs ρ => R.opt (biD b xs) ρ) := e_bi_
theorem e_isI_ {a : Ex} {t : Ty} : ev P Γ (.isI a t) ρ = ((look a (ev P Γ a ρ) ρ).bind fun x ρ => (R.opt (isD x t) ρ).bind fun k ρ => .ok (.bl k, .dp) ρ) := rfl
theorem e_isI {a : Ex} {t : Ty} : ev P Γ (.isI a t) ρ = ((look a (ev P Γ a ρ) ρ).bd fun x ρ => (R.opt (isD x t) ρ).bd fun k ρ => .ok (.bl k, .dp) ρ) := e_isI_
theorem e_pop {i : Nat} : ev P Γ (.pop i) ρ = (popS i (slot ρ i) none ρ) := rfl
theorem e_popAt_ {i : Nat} {e : Ex} : ev P Γ (.popAt i e) ρ = ((R.opt (isLst (slot ρ i)) ρ).bind fun _ ρ => (look e (ev P Γ e ρ) ρ).bind fun x ρ => popK i x (slot ρ i) ρ) := rfl
theorem e_popAt {i : Nat} {e : Ex} : ev P Γ (.popAt i e) ρ = ((R.opt (isLst (slot ρ i)) ρ).bd fun _ ρ => (look e (ev P Γ e ρ) ρ).bd fun x ρ => popK i x (slot ρ i) ρ) := e_popAt_
theorem e_compR_ {own : List Nat} {tg : Nat} {as ifs : List Ex} {e : Ex} : ev P Γ (.compR own tg as ifs e) ρ = ((evL P Γ as ρ).bind fun xs ρ => cmpRT own tg (rngD (xs.map (·.1))) (fun ρ => evIfs P Γ ifs ρ) (fun ρ => ev P Γ e ρ) ρ) := rfl
theorem e_compR {own : List Nat} {tg : Nat} {as ifs : List Ex} {e : Ex} : ev P Γ (.compR own tg as ifs e) ρ = ((evL P Γ as ρ).bd fun xs ρ => cmpRT own tg (rngD (xs.map (·.1))) (fun ρ => evIfs P Γ ifs ρ) (fun ρ => ev P Γ e ρ) ρ) := e_compR_
theorem e_compL_ {own : List Nat} {tu : Bool} {tg : List Nat} {a : Ex} {ifs : List Ex} {e : Ex} : ev P Γ (.compL own tu tg a ifs e) ρ = ((cpy a (ev P Γ a ρ) ρ).bind fun x ρ => if isVar a && (effL P ifs || eff P e) then .bad else cmpLT own tu tg x (fun ρ => evIfs P Γ ifs ρ) (fun ρ => ev P Γ e ρ) ρ) := rfl
theorem e_compL {own : List Nat} {tu : Bool} {tg : List Nat} {a : Ex} {ifs : List Ex} {e : Ex} : ev P Γ (.compL own tu tg a ifs e) ρ = ((cpy a (ev P Γ a ρ) ρ).bd fun x ρ => if isVar a && (effL P ifs || eff P e) then .bad else cmpLT own tu tg x (fun ρ => evIfs P Γ ifs ρ) (fun ρ => ev P Γ e ρ) ρ) := e_compL_
theorem e_sh {i : Nat} : ev P Γ (.sh i) ρ = (rdS (slot ρ i) i ρ) := rfl
theorem e_var {i : Nat} : ev P Γ (.var i) ρ = (rdS (slot ρ i) i ρ) := rfl
theorem t_chain_ {op op2 : Cop} {a b c : Ex} : tr P Γ (.chain op op2 a b c) ρ = ((look a (ev P Γ a ρ) ρ).bind fun x ρ => (look b (ev P Γ b ρ) ρ).bind fun y ρ => if prim x && prim y then (R.opt (cmpD op x y) ρ).bind fun k ρ => if k then (look c (ev P Γ c ρ) ρ).bind fun z ρ => (R.opt (cmpD op2 y z) ρ).bind fun k ρ => .ok k ρ else .ok false ρ else .bad) := by
  unfold tr
  show (((((look a (ev P Γ a ρ) ρ).bind fun x ρ => (look b (ev P Γ b ρ) ρ).bind fun y ρ => if prim x && prim y then (R.opt (cmpD op x y) ρ).bind fun k ρ => if k then (look c (ev P Γ c ρ) ρ).bind fun z ρ => (R.opt (cmpD op2 y z) ρ).bind fun k ρ => .ok ((.bl k, .dp) : D × Md) ρ else .ok (.bl false, .dp) ρ else .bad) : R (D × Md)).bind fun dm ρ => .ok dm.1 ρ).bind _) = _
  cases look a (ev P Γ a ρ) ρ with
  | ok x ρ =>
    simp only [R.bind]
    cases look b (ev P Γ b ρ) ρ with
    | ok y ρ =>
      simp only []
      by_cases hp : (prim x && prim y) = true
      · simp only [hp, if_true]
        cases cmpD op x y with
        | some k =>
          simp only [R.opt]
          cases k with
          | true =>
            simp only [if_true]
            cases look c (ev P Γ c ρ) ρ with
            | ok z ρ =>
              simp only []
              cases cmpD op2 y z <;> rfl
            | _ => rfl
          | false => rfl
        | none => rfl
      · simp only [hp, if_false]
        rfl
    | _ => rfl
  | _ => rfl
theorem t_chain {op op2 : Cop} {a b c : Ex} : tr P Γ (.chain op op2 a b c) ρ = ((look a (ev P Γ a ρ) ρ).bd fun x ρ => (look b (ev P Γ b ρ) ρ).bd fun y ρ => if prim x && prim y then (R.opt (cmpD op x y) ρ).bd fun k ρ => if k then (look c (ev P Γ c ρ) ρ).bd fun z ρ => (R.opt (cmpD op2 y z) ρ).bd fun k ρ => .ok k ρ else .ok false ρ else .bad) := t_chain_
theorem t_isN_ {k : Bool} {a : Ex} : tr P Γ (.isN k a) ρ = ((look a (ev P Γ a ρ) ρ).bind fun x ρ => .ok (isNo k x) ρ) := by
  unfold tr
  show (((look a (ev P Γ a ρ) ρ).bind _).bind _).bind _ = _
  cases look a (ev P Γ a ρ) ρ with
  | ok v ρ => cases v <;> rfl
  | _ => rfl

theorem t_isN {k : Bool} {a : Ex} : tr P Γ (.isN k a) ρ = ((look a (ev P Γ a ρ) ρ).bd fun x ρ => .ok (isNo k x) ρ) := t_isN_
theorem t_cmp_ {op : Cop} {a b : Ex} : tr P Γ (.cmp op a b) ρ = ((look a (ev P Γ a ρ) ρ).bind fun x ρ => (look b (ev P Γ b ρ) ρ).bind fun y ρ => if keptL P a b x then R.opt (cmpD op x y) ρ else .bad) := tr_cmp _ _ _ _ _ _
theorem t_cmp {op : Cop} {a b : Ex} : tr P Γ (.cmp op a b) ρ = ((look a (ev P Γ a ρ) ρ).bd fun x ρ => (look b (ev P Γ b ρ) ρ).bd fun y ρ => if keptL P a b x then R.opt (cmpD op x y) ρ else .bad) := t_cmp_
theorem t_and {es : List Ex} : tr P Γ (.and es) ρ = evAnd P Γ es ρ := tr_and _ _ _ _
theorem t_or {es : List Ex} : tr P Γ (.or es) ρ = evOr P Γ es ρ := tr_or _ _ _ _
theorem t_not_ {a : Ex} : tr P Γ (.not a) ρ = ((tr P Γ a ρ).bind fun k ρ => .ok (!k) ρ) := tr_not _ _ _ _
theorem t_not {a : Ex} : tr P Γ (.not a) ρ = ((tr P Γ a ρ).bd fun k ρ => .ok (!k) ρ) := t_not_
theorem t_var_ {i : Nat} : tr P Γ (.var i) ρ = ((R.opt (slot ρ i) ρ).bind fun dm ρ => trD dm.1 ρ) := by
  rw [tr_var]
  cases slot ρ i with
  | none => rfl
  | some x => cases x with
    | mk d m => cases d <;> rfl
theorem t_var {i : Nat} : tr P Γ (.var i) ρ = ((R.opt (slot ρ i) ρ).bd fun dm ρ => trD dm.1 ρ) := t_var_
theorem t_bl {k : Bool} : tr P Γ (.bl k) ρ = .ok k ρ := rfl
theorem t_call_ {f : Nat} {es : List Ex} : tr P Γ (.call f es) ρ = ((ev P Γ (.call f es) ρ).bind fun dm ρ => trD dm.1 ρ) := by
  unfold tr
  show ((ev P Γ (.call f es) ρ).bind _).bind _ = _
  cases ev P Γ (.call f es) ρ with
  | ok v ρ => cases v with
    | mk d m => cases d <;> rfl
  | _ => rfl
theorem t_call {f : Nat} {es : List Ex} : tr P Γ (.call f es) ρ = ((ev P Γ (.call f es) ρ).bd fun dm ρ => trD dm.1 ρ) := t_call_
theorem t_ix_ {a b : Ex} : tr P Γ (.ix a b) ρ = ((ev P Γ (.ix a b) ρ).bind fun dm ρ => trD dm.1 ρ) := by
  unfold tr
  show ((ev P Γ (.ix a b) ρ).bind _).bind _ = _
  cases ev P Γ (.ix a b) ρ with
  | ok v ρ => cases v with
    | mk d m => cases d <;> rfl
  | _ => rfl
theorem t_ix {a b : Ex} : tr P Γ (.ix a b) ρ = ((ev P Γ (.ix a b) ρ).bd fun dm ρ => trD dm.1 ρ) := t_ix_
theorem t_ife_ {t a b : Ex} : tr P Γ (.ife t a b) ρ = ((ev P Γ (.ife t a b) ρ).bind fun dm ρ => trD dm.1 ρ) := by
  unfold tr
  show ((ev P Γ (.ife t a b) ρ).bind _).bind _ = _
  cases ev P Γ (.ife t a b) ρ with
  | ok v ρ => cases v with
    | mk d m => cases d <;> rfl
  | _ => rfl
theorem t_ife {t a b : Ex} : tr P Γ (.ife t a b) ρ = ((ev P Γ (.ife t a b) ρ).bd fun dm ρ => trD dm.1 ρ) := t_ife_
theorem t_isI_ {a : Ex} {t : Ty} : tr P Γ (.isI a t) ρ = ((ev P Γ (.isI a t) ρ).bind fun dm ρ => trD dm.1 ρ) := by
  unfold tr
  show ((ev P Γ (.isI a t) ρ).bind _).bind _ = _
  cases ev P Γ (.isI a t) ρ with
  | ok v ρ => cases v with
    | mk d m => cases d <;> rfl
  | _ => rfl
theorem t_isI {a : Ex} {t : Ty} : tr P Γ (.isI a t) ρ = ((ev P Γ (.isI a t) ρ).bd fun dm ρ => trD dm.1 ρ) := t_isI_
theorem t_meth_ {i : Nat} {m : Str} {es : List Ex} : tr P Γ (.meth i m es) ρ = ((ev P Γ (.meth i m es) ρ).bind fun dm ρ => trD dm.1 ρ) := by
  unfold tr
  show ((ev P Γ (.meth i m es) ρ).bind _).bind _ = _
  cases ev P Γ (.meth i m es) ρ with
  | ok v ρ => cases v with
    | mk d m => cases d <;> rfl
  | _ => rfl
theorem t_meth {i : Nat} {m : Str} {es : List Ex} : tr P Γ (.meth i m es) ρ = ((ev P Γ (.meth i m es) ρ).bd fun dm ρ => trD dm.1 ρ) := t_meth_
theorem t_fld_ {a : Ex} {f : Str} : tr P Γ (.fld a f) ρ = ((ev P Γ (.fld a f) ρ).bind fun dm ρ => trD dm.1 ρ) := by
  unfold tr
  show ((ev P Γ (.fld a f) ρ).bind _).bind _ = _
  cases ev P Γ (.fld a f) ρ with
  | ok v ρ => cases v with
    | mk d m => cases d <;> rfl
  | _ => rfl
theorem t_fld {a : Ex} {f : Str} : tr P Γ (.fld a f) ρ = ((ev P Γ (.fld a f) ρ).bd fun dm ρ => trD dm.1 ρ) := t_fld_
theorem t_bi_ {b : Bi} {es : List Ex} : tr P Γ (.bi b es) ρ = ((ev P Γ (.bi b es) ρ).bind fun dm ρ => trD dm.1 ρ) := by
  unfold tr
  show ((ev P Γ (.bi b es) ρ).bind _).bind _ = _
  cases ev P Γ (.bi b es) ρ with
  | ok v ρ => cases v with
    | mk d m => cases d <;> rfl
  | _ => rfl
theorem t_bi {b : Bi} {es : List Ex} : tr P Γ (.bi b es) ρ = ((ev P Γ (.bi b es) ρ).bd fun dm ρ => trD dm.1 ρ) := t_bi_
theorem and_n : evAnd P Γ [] ρ = .ok true ρ := rfl
theorem or_n : evOr P Γ [] ρ = .ok false ρ := rfl
theorem and_c_ {a : Ex} {es : List Ex} : evAnd P Γ (a :: es) ρ = ((tr P Γ a ρ).bind fun k ρ => if k then evAnd P Γ es ρ else .ok false ρ) := and_cons _ _ _ _ _
theorem and_c {a : Ex} {es : List Ex} : evAnd P Γ (a :: es) ρ = ((tr P Γ a ρ).bd fun k ρ => if k then evAnd P Γ es ρ else .ok false ρ) := and_c_
theorem or_c_ {a : Ex} {es : List Ex} : evOr P Γ (a :: es) ρ = ((tr P Γ a ρ).bind fun k ρ => if k then .ok true ρ else evOr P Γ es ρ) := or_cons _ _ _ _ _
theorem or_c {a : Ex} {es : List Ex} : evOr P Γ (a :: es) ρ = ((tr P Γ a ρ).bd fun k ρ => if k then .ok true ρ else evOr P Γ es ρ) := or_c_
theorem l_nil : evL P Γ [] ρ = .ok [] ρ := rfl
theorem l_cons_ {e : Ex} {r : List Ex} : evL P Γ (e :: r) ρ = ((ev P Γ e ρ).bind fun x ρ => (evL P Γ r ρ).bind fun xs ρ => .ok (x :: xs) ρ) := rfl
theorem l_cons {e : Ex} {r : List Ex} : evL P Γ (e :: r) ρ = ((ev P Γ e ρ).bd fun x ρ => (evL P Γ r ρ).bd fun xs ρ => .ok (x :: xs) ρ) := l_cons_
theorem p_nil : evPart P Γ [] ρ = .ok none ρ := rfl
theorem p_cons_ {e : Ex} {r : List Ex} : evPart P Γ (e :: r) ρ = ((look e (ev P Γ e ρ) ρ).bind fun x ρ => partD x ρ) := by
  show (look e (ev P Γ e ρ) ρ).bind _ = _
  cases look e (ev P Γ e ρ) ρ with
  | ok v ρ => cases v <;> rfl
  | _ => rfl
theorem p_cons {e : Ex} {r : List Ex} : evPart P Γ (e :: r) ρ = ((look e (ev P Γ e ρ) ρ).bd fun x ρ => partD x ρ) := p_cons_
theorem k_nil {c : Bool} : evLook P Γ c [] ρ = .ok [] ρ := rfl
theorem k_cons_ {c : Bool} {e : Ex} {r : List Ex} : evLook P Γ c (e :: r) ρ = ((if c then cpy e (ev P Γ e ρ) ρ else look e (ev P Γ e ρ) ρ).bind fun x ρ => if isVar e && effL P r && !prim x then .bad else (evLook P Γ c r ρ).bind fun xs ρ => .ok (x :: xs) ρ) := rfl
theorem k_cons {c : Bool} {e : Ex} {r : List Ex} : evLook P Γ c (e :: r) ρ = ((if c then cpy e (ev P Γ e ρ) ρ else look e (ev P Γ e ρ) ρ).bd fun x ρ => if isVar e && effL P r && !prim x then .bad else (evLook P Γ c r ρ).bd fun xs ρ => .ok (x :: xs) ρ) := k_cons_
theorem a_nil : evArgs P Γ [] ρ = .ok [] ρ := rfl
theorem a_var_ {i : Nat} {r : List Ex} : evArgs P Γ (.var i :: r) ρ = ((R.opt (slot ρ i) ρ).bind fun _ ρ => (evArgs P Γ r ρ).bind fun as ρ => .ok (.sl i :: as) ρ) := rfl
theorem a_var {i : Nat} {r : List Ex} : evArgs P Γ (.var i :: r) ρ = ((R.opt (slot ρ i) ρ).bd fun _ ρ => (evArgs P Γ r ρ).bd fun as ρ => .ok (.sl i :: as) ρ) := a_var_
theorem a_int_ {i : Int} {r : List Ex} : evArgs P Γ (.int i :: r) ρ = ((ev P Γ (.int i) ρ).bind fun x ρ => (evArgs P Γ r ρ).bind fun as ρ => .ok (.vl x.1 x.2 :: as) ρ) := rfl
theorem a_int {i : Int} {r : List Ex} : evArgs P Γ (.int i :: r) ρ = ((ev P Γ (.int i) ρ).bd fun x ρ => (evArgs P Γ r ρ).bd fun as ρ => .ok (.vl x.1 x.2 :: as) ρ) := a_int_
theorem a_str_ {x : Str} {r : List Ex} : evArgs P Γ (.str x :: r) ρ = ((ev P Γ (.str x) ρ).bind fun x ρ => (evArgs P Γ r ρ).bind fun as ρ => .ok (.vl x.1 x.2 :: as) ρ) := rfl
theorem a_str {x : Str} {r : List Ex} : evArgs P Γ (.str x :: r) ρ = ((ev P Γ (.str x) ρ).bd fun x ρ => (evArgs P Γ r ρ).bd fun as ρ => .ok (.vl x.1 x.2 :: as) ρ) := a_str_
theorem a_bl_ {b : Bool} {r : List Ex} : evArgs P Γ (.bl b :: r) ρ = ((ev P Γ (.bl b) ρ).bind fun x ρ => (evArgs P Γ r ρ).bind fun as ρ => .ok (.vl x.1 x.2 :: as) ρ) := rfl
theorem a_bl {b : Bool} {r : List Ex} : evArgs P Γ (.bl b :: r) ρ = ((ev P Γ (.bl b) ρ).bd fun x ρ => (evArgs P Γ r ρ).bd fun as ρ => .ok (.vl x.1 x.2 :: as) ρ) := a_bl_
theorem a_non_  {r : List Ex} : evArgs P Γ (.non :: r) ρ = ((ev P Γ (.non) ρ).bind fun x ρ => (evArgs P Γ r ρ).bind fun as ρ => .ok (.vl x.1 x.2 :: as) ρ) := rfl
theorem a_non  {r : List Ex} : evArgs P Γ (.non :: r) ρ = ((ev P Γ (.non) ρ).bd fun x ρ => (evArgs P Γ r ρ).bd fun as ρ => .ok (.vl x.1 x.2 :: as) ρ) := a_non_
theorem a_mv_ {i : Nat} {r : List Ex} : evArgs P Γ (.mv i :: r) ρ = ((ev P Γ (.mv i) ρ).bind fun x ρ => (evArgs P Γ r ρ).bind fun as ρ => .ok (.vl x.1 x.2 :: as) ρ) := rfl
theorem a_mv {i : Nat} {r : List Ex} : evArgs P Γ (.mv i :: r) ρ = ((ev P Γ (.mv i) ρ).bd fun x ρ => (evArgs P Γ r ρ).bd fun as ρ => .ok (.vl x.1 x.2 :: as) ρ) := a_mv_
theorem a_bin_ {op : Bop} {a b : Ex} {r : List Ex} : evArgs P Γ (.bin op a b :: r) ρ = ((ev P Γ (.bin op a b) ρ).bind fun x ρ => (evArgs P Γ r ρ).bind fun as ρ => .ok (.vl x.1 x.2 :: as) ρ) := rfl
theorem a_bin {op : Bop} {a b : Ex} {r : List Ex} : evArgs P Γ (.bin op a b :: r) ρ = ((ev P Γ (.bin op a b) ρ).bd fun x ρ => (evArgs P Γ r ρ).bd fun as ρ => .ok (.vl x.1 x.2 :: as) ρ) := a_bin_
theorem a_neg_ {a : Ex} {r : List Ex} : evArgs P Γ (.neg a :: r) ρ = ((ev P Γ (.neg a) ρ).bind fun x ρ => (evArgs P Γ r ρ).bind fun as ρ => .ok (.vl x.1 x.2 :: as) ρ) := rfl
theorem a_neg {a : Ex} {r : List Ex} : evArgs P Γ (.neg a :: r) ρ = ((ev P Γ (.neg a) ρ).bd fun x ρ => (evArgs P Γ r ρ).bd fun as ρ => .ok (.vl x.1 x.2 :: as) ρ) := a_neg_
theorem a_cmp_ {op : Cop} {a b : Ex} {r : List Ex} : evArgs P Γ (.cmp op a b :: r) ρ = ((ev P Γ (.cmp op a b) ρ).bind fun x ρ => (evArgs P Γ r ρ).bind fun as ρ => .ok (.vl x.1 x.2 :: as) ρ) := rfl
theorem a_cmp {op : Cop} {a b : Ex} {r : List Ex} : evArgs P Γ (.cmp op a b :: r) ρ = ((ev P Γ (.cmp op a b) ρ).bd fun x ρ => (evArgs P Γ r ρ).bd fun as ρ => .ok (.vl x.1 x.2 :: as) ρ) := a_cmp_
theorem a_chain_ {op op2 : Cop} {a b c : Ex} {r : List Ex} : evArgs P Γ (.chain op op2 a b c :: r) ρ = ((ev P Γ (.chain op op2 a b c) ρ).bind fun x ρ => (evArgs P Γ r ρ).bind fun as ρ => .ok (.vl x.1 x.2 :: as) ρ) := rfl
theorem a_chain {op op2 : Cop} {a b c : Ex} {r : List Ex} : evArgs P Γ (.chain op op2 a b c :: r) ρ = ((ev P Γ (.chain op op2 a b c) ρ).bd fun x ρ => (evArgs P Γ r ρ).bd fun as ρ => .ok (.vl x.1 x.2 :: as) ρ) := a_chain_
theorem a_isN_ {k : Bool} {a : Ex} {r : List Ex} : evArgs P Γ (.isN k a :: r) ρ = ((ev P Γ (.isN k a) ρ).bind fun x ρ => (evArgs P Γ r ρ).bind fun as ρ => .ok (.vl x.1 x.2 :: as) ρ) := rfl
theorem a_isN {k : Bool} {a : Ex} {r : List Ex} : evArgs P Γ (.isN k a :: r) ρ = ((ev P Γ (.isN k a) ρ).bd fun x ρ => (evArgs P Γ r ρ).bd fun as ρ => .ok (.vl x.1 x.2 :: as) ρ) := a_isN_
theorem a_and_ {es : List Ex} {r : List Ex} : evArgs P Γ (.and es :: r) ρ = ((ev P Γ (.and es) ρ).bind fun x ρ => (evArgs P Γ r ρ).bind fun as ρ => .ok (.vl x.1 x.2 :: as) ρ) := rfl
theorem a_and {es : List Ex} {r : List Ex} : evArgs P Γ (.and es :: r) ρ = ((ev P Γ (.and es) ρ).bd fun x ρ => (evArgs P Γ r ρ).bd fun as ρ => .ok (.vl x.1 x.2 :: as) ρ) := a_and_
theorem a_or_ {es : List Ex} {r : List Ex} : evArgs P Γ (.or es :: r) ρ = ((ev P Γ (.or es) ρ).bind fun x ρ => (evArgs P Γ r ρ).bind fun as ρ => .ok (.vl x.1 x.2 :: as) ρ) := rfl
theorem a_or {es : List Ex} {r : List Ex} : evArgs P Γ (.or es :: r) ρ = ((ev P Γ (.or es) ρ).bd fun x ρ => (evArgs P Γ r ρ).bd fun as ρ => .ok (.vl x.1 x.2 :: as) ρ) := a_or_
theorem a_not_ {a : Ex} {r : List Ex} : evArgs P Γ (.not a :: r) ρ = ((ev P Γ (.not a) ρ).bind fun x ρ => (evArgs P Γ r ρ).bind fun as ρ => .ok (.vl x.1 x.2 :: as) ρ) := rfl
theorem a_not {a : Ex} {r : List Ex} : evArgs P Γ (.not a :: r) ρ = ((ev P Γ (.not a) ρ).bd fun x ρ => (evArgs P Γ r ρ).bd fun as ρ => .ok (.vl x.1 x.2 :: as) ρ) := a_not_
theorem a_ife_ {t a b : Ex} {r : List Ex} : evArgs P Γ (.ife t a b :: r) ρ = ((ev P Γ (.ife t a b) ρ).bind fun x ρ => (evArgs P Γ r ρ).bind fun as ρ => .ok (.vl x.1 x.2 :: as) ρ) := rfl
theorem a_ife {t a b : Ex} {r : List Ex} : evArgs P Γ (.ife t a b :: r) ρ = ((ev P Γ (.ife t a b) ρ).bd fun x ρ => (evArgs P Γ r ρ).bd fun as ρ => .ok (.vl x.1 x.2 :: as) ρ) := a_ife_
theorem a_lst_ {es : List Ex} {r : List Ex} : evArgs P Γ (.lst es :: r) ρ = ((ev P Γ (.lst es) ρ).bind fun x ρ => (evArgs P Γ r ρ).bind fun as ρ => .ok (.vl x.1 x.2 :: as) ρ) := rfl
theorem a_lst {es : List Ex} {r : List Ex} : evArgs P Γ (.lst es :: r) ρ = ((ev P Γ (.lst es) ρ).bd fun x ρ => (evArgs P Γ r ρ).bd fun as ρ => .ok (.vl x.1 x.2 :: as) ρ) := a_lst_
theorem a_tup_ {es : List Ex} {r : List Ex} : evArgs P Γ (.tup es :: r) ρ = ((ev P Γ (.tup es) ρ).bind fun x ρ => (evArgs P Γ r ρ).bind fun as ρ => .ok (.vl x.1 x.2 :: as) ρ) := rfl
theorem a_tup {es : List Ex} {r : List Ex} : evArgs P Γ (.tup es :: r) ρ = ((ev P Γ (.tup es) ρ).bd fun x ρ => (evArgs P Γ r ρ).bd fun as ρ => .ok (.vl x.1 x.2 :: as) ρ) := a_tup_
theorem a_dK0_  {r : List Ex} : evArgs P Γ (.dK0 :: r) ρ = ((ev P Γ (.dK0) ρ).bind fun x ρ => (evArgs P Γ r ρ).bind fun as ρ => .ok (.vl x.1 x.2 :: as) ρ) := rfl
theorem a_dK0  {r : List Ex} : evArgs P Γ (.dK0 :: r) ρ = ((ev P Γ (.dK0) ρ).bd fun x ρ => (evArgs P Γ r ρ).bd fun as ρ => .ok (.vl x.1 x.2 :: as) ρ) := a_dK0_
theorem a_dT0_  {r : List Ex} : evArgs P Γ (.dT0 :: r) ρ = ((ev P Γ (.dT0) ρ).bind fun x ρ => (evArgs P Γ r ρ).bind fun as ρ => .ok (.vl x.1 x.2 :: as) ρ) := rfl
theorem a_dT0  {r : List Ex} : evArgs P Γ (.dT0 :: r) ρ = ((ev P Γ (.dT0) ρ).bd fun x ρ => (evArgs P Γ r ρ).bd fun as ρ => .ok (.vl x.1 x.2 :: as) ρ) := a_dT0_
theorem a_ix_ {a b : Ex} {r : List Ex} : evArgs P Γ (.ix a b :: r) ρ = ((ev P Γ (.ix a b) ρ).bind fun x ρ => (evArgs P Γ r ρ).bind fun as ρ => .ok (.vl x.1 x.2 :: as) ρ) := rfl
theorem a_ix {a b : Ex} {r : List Ex} : evArgs P Γ (.ix a b :: r) ρ = ((ev P Γ (.ix a b) ρ).bd fun x ρ => (evArgs P Γ r ρ).bd fun as ρ => .ok (.vl x.1 x.2 :: as) ρ) := a_ix_
theorem a_slc_ {a : Ex} {lo hi : List Ex} {r : List Ex} : evArgs P Γ (.slc a lo hi :: r) ρ = ((ev P Γ (.slc a lo hi) ρ).bind fun x ρ => (evArgs P Γ r ρ).bind fun as ρ => .ok (.vl x.1 x.2 :: as) ρ) := rfl
theorem a_slc {a : Ex} {lo hi : List Ex} {r : List Ex} : evArgs P Γ (.slc a lo hi :: r) ρ = ((ev P Γ (.slc a lo hi) ρ).bd fun x ρ => (evArgs P Γ r ρ).bd fun as ρ => .ok (.vl x.1 x.2 :: as) ρ) := a_slc_
theorem a_fld_ {a : Ex} {f : Str} {r : List Ex} : evArgs P Γ (.fld a f :: r) ρ = ((ev P Γ (.fld a f) ρ).bind fun x ρ => (evArgs P Γ r ρ).bind fun as ρ => .ok (.vl x.1 x.2 :: as) ρ) := rfl
theorem a_fld {a : Ex} {f : Str} {r : List Ex} : evArgs P Γ (.fld a f :: r) ρ = ((ev P Γ (.fld a f) ρ).bd fun x ρ => (evArgs P Γ r ρ).bd fun as ρ => .ok (.vl x.1 x.2 :: as) ρ) := a_fld_
theorem a_call_ {f : Nat} {es : List Ex} {r : List Ex} : evArgs P Γ (.call f es :: r) ρ = ((ev P Γ (.call f es) ρ).bind fun x ρ => (evArgs P Γ r ρ).bind fun as ρ => .ok (.vl x.1 x.2 :: as) ρ) := rfl
theorem a_call {f : Nat} {es : List Ex} {r : List Ex} : evArgs P Γ (.call f es :: r) ρ = ((ev P Γ (.call f es) ρ).bd fun x ρ => (evArgs P Γ r ρ).bd fun as ρ => .ok (.vl x.1 x.2 :: as) ρ) := a_call_
theorem a_mk_ {f : Nat} {es : List Ex} {r : List Ex} : evArgs P Γ (.mk f es :: r) ρ = ((ev P Γ (.mk f es) ρ).bind fun x ρ => (evArgs P Γ r ρ).bind fun as ρ => .ok (.vl x.1 x.2 :: as) ρ) := rfl
theorem a_mk {f : Nat} {es : List Ex} {r : List Ex} : evArgs P Γ (.mk f es :: r) ρ = ((ev P Γ (.mk f es) ρ).bd fun x ρ => (evArgs P Γ r ρ).bd fun as ρ => .ok (.vl x.1 x.2 :: as) ρ) := a_mk_
theorem a_meth_ {i : Nat} {m : Str} {es : List Ex} {r : List Ex} : evArgs P Γ (.meth i m es :: r) ρ = ((ev P Γ (.meth i m es) ρ).bind fun x ρ => (evArgs P Γ r ρ).bind fun as ρ => .ok (.vl x.1 x.2 :: as) ρ) := rfl
theorem a_meth {i : Nat} {m : Str} {es : List Ex} {r : List Ex} : evArgs P Γ (.meth i m es :: r) ρ = ((ev P Γ (.meth i m es) ρ).bd fun x ρ => (evArgs P Γ r ρ).bd fun as ρ => .ok (.vl x.1 x.2 :: as) ρ) := a_meth_
theorem a_bi_ {b : Bi} {es : List Ex} {r : List Ex} : evArgs P Γ (.bi b es :: r) ρ = ((ev P Γ (.bi b es) ρ).bind fun x ρ => (evArgs P Γ r ρ).bind fun as ρ => .ok (.vl x.1 x.2 :: as) ρ) := rfl
theorem a_bi {b : Bi} {es : List Ex} {r : List Ex} : evArgs P Γ (.bi b es :: r) ρ = ((ev P Γ (.bi b es) ρ).bd fun x ρ => (evArgs P Γ r ρ).bd fun as ρ => .ok (.vl x.1 x.2 :: as) ρ) := a_bi_
theorem a_isI_ {a : Ex} {t : Ty} {r : List Ex} : evArgs P Γ (.isI a t :: r) ρ = ((ev P Γ (.isI a t) ρ).bind fun x ρ => (evArgs P Γ r ρ).bind fun as ρ => .ok (.vl x.1 x.2 :: as) ρ) := rfl
theorem a_isI {a : Ex} {t : Ty} {r : List Ex} : evArgs P Γ (.isI a t :: r) ρ = ((ev P Γ (.isI a t) ρ).bd fun x ρ => (evArgs P Γ r ρ).bd fun as ρ => .ok (.vl x.1 x.2 :: as) ρ) := a_isI_
theorem a_pop_ {i : Nat} {r : List Ex} : evArgs P Γ (.pop i :: r) ρ = ((ev P Γ (.pop i) ρ).bind fun x ρ => (evArgs P Γ r ρ).bind fun as ρ => .ok (.vl x.1 x.2 :: as) ρ) := rfl
theorem a_pop {i : Nat} {r : List Ex} : evArgs P Γ (.pop i :: r) ρ = ((ev P Γ (.pop i) ρ).bd fun x ρ => (evArgs P Γ r ρ).bd fun as ρ => .ok (.vl x.1 x.2 :: as) ρ) := a_pop_
theorem a_popAt_ {i : Nat} {e : Ex} {r : List Ex} : evArgs P Γ (.popAt i e :: r) ρ = ((ev P Γ (.popAt i e) ρ).bind fun x ρ => (evArgs P Γ r ρ).bind fun as ρ => .ok (.vl x.1 x.2 :: as) ρ) := rfl
theorem a_popAt {i : Nat} {e : Ex} {r : List Ex} : evArgs P Γ (.popAt i e :: r) ρ = ((ev P Γ (.popAt i e) ρ).bd fun x ρ => (evArgs P Γ r ρ).bd fun as ρ => .ok (.vl x.1 x.2 :: as) ρ) := a_popAt_
theorem a_compR_ {own : List Nat} {tg : Nat} {as ifs : List Ex} {e : Ex} {r : List Ex} : evArgs P Γ (.compR own tg as ifs e :: r) ρ = ((ev P Γ (.compR own tg as ifs e) ρ).bind fun x ρ => (evArgs P Γ r ρ).bind fun as ρ => .ok (.vl x.1 x.2 :: as) ρ) := rfl
theorem a_compR {own : List Nat} {tg : Nat} {as ifs : List Ex} {e : Ex} {r : List Ex} : evArgs P Γ (.compR own tg as ifs e :: r) ρ = ((ev P Γ (.compR own tg as ifs e) ρ).bd fun x ρ => (evArgs P Γ r ρ).bd fun as ρ => .ok (.vl x.1 x.2 :: as) ρ) := a_compR_
theorem a_compL_ {own : List Nat} {tu : Bool} {tg : List Nat} {a : Ex} {ifs : List Ex} {e : Ex} {r : List Ex} : evArgs P Γ (.compL own tu tg a ifs e :: r) ρ = ((ev P Γ (.compL own tu tg a ifs e) ρ).bind fun x ρ => (evArgs P Γ r ρ).bind fun as ρ => .ok (.vl x.1 x.2 :: as) ρ) := rfl
theorem a_compL {own : List Nat} {tu : Bool} {tg : List Nat} {a : Ex} {ifs : List Ex} {e : Ex} {r : List Ex} : evArgs P Γ (.compL own tu tg a ifs e :: r) ρ = ((ev P Γ (.compL own tu tg a ifs e) ρ).bd fun x ρ => (evArgs P Γ r ρ).bd fun as ρ => .ok (.vl x.1 x.2 :: as) ρ) := a_compL_
theorem a_sh_ {i : Nat} {r : List Ex} : evArgs P Γ (.sh i :: r) ρ = ((ev P Γ (.sh i) ρ).bind fun x ρ => (evArgs P Γ r ρ).bind fun as ρ => .ok (.vl x.1 x.2 :: as) ρ) := rfl
theorem a_sh {i : Nat} {r : List Ex} : evArgs P Γ (.sh i :: r) ρ = ((ev P Γ (.sh i) ρ).bd fun x ρ => (evArgs P Γ r ρ).bd fun as ρ => .ok (.vl x.1 x.2 :: as) ρ) := a_sh_
theorem i_nil : evIfs P Γ [] ρ = .ok true ρ := rfl
theorem i_cons {e : Ex} {r : List Ex} : evIfs P Γ (e :: r) ρ = tr P Γ e ρ := rfl
theorem ss_nil : exSs P Γ [] ρ = .nx ρ := rfl
theorem ss_cons_ {s : Sm} {r : List Sm} : exSs P Γ (s :: r) ρ = (exS P Γ s ρ).seq fun ρ => exSs P Γ r ρ := rfl
theorem ss_cons {s : Sm} {r : List Sm} : exSs P Γ (s :: r) ρ = (exS P Γ s ρ).sq fun ρ => exSs P Γ r ρ := ss_cons_
theorem s_set'_ {i : Nat} {e : Ex} : exS P Γ (.set i e) ρ = ((ev P Γ e ρ).fl fun x ρ => .nx (ρ.set i (some x))) := rfl
theorem s_set' {i : Nat} {e : Ex} : exS P Γ (.set i e) ρ = ((ev P Γ e ρ).fd fun x ρ => .nx (ρ.set i (some x))) := s_set'_
theorem s_setT'_ {is : List Nat} {e : Ex} : exS P Γ (.setT is e) ρ = ((ev P Γ e ρ).fl fun x ρ => bndO (bindOne true is x.1 ρ)) := rfl
theorem s_setT' {is : List Nat} {e : Ex} : exS P Γ (.setT is e) ρ = ((ev P Γ e ρ).fd fun x ρ => bndO (bindOne true is x.1 ρ)) := s_setT'_
theorem s_aug'_ {i : Nat} {op : Bop} {e : Ex} : exS P Γ (.aug i op e) ρ = ((R.opt (slot ρ i) ρ).fl fun a ρ => augA a.1 ((ev P Γ e ρ).fl fun y ρ => augB op a.1 y.1 i ρ)) := by
  show (match slot ρ i with
    | some (.int a, _) => _
    | _ => _) = _
  cases slot ρ i with
  | none => rfl
  | some x => cases x with
    | mk d m => cases d with
      | int a =>
        show (ev P Γ e ρ).fl _ = _
        show _ = (ev P Γ e ρ).fl _
        cases ev P Γ e ρ with
        | ok y ρ =>
          cases y with
          | mk y m => cases y with
            | int b =>
              dsimp only [R.fl]
              unfold augB
              all_goals (try dsimp only)
              all_goals (cases binD op (.int a) (.int b) <;> rfl)
            | _ => rfl
        | _ => rfl
      | _ => rfl
theorem s_aug' {i : Nat} {op : Bop} {e : Ex} : exS P Γ (.aug i op e) ρ = ((R.opt (slot ρ i) ρ).fd fun a ρ => augA a.1 ((ev P Γ e ρ).fd fun y ρ => augB op a.1 y.1 i ρ)) := s_aug'_
theorem s_setIx'_ {i : Nat} {k e : Ex} : exS P Γ (.setIx i k e) ρ = ((ev P Γ e ρ).fl fun x ρ => (R.opt (isLst (slot ρ i)) ρ).fl fun _ ρ => (look k (ev P Γ k ρ) ρ).fl fun y ρ => setIxD i x y ρ) := rfl
theorem s_setIx' {i : Nat} {k e : Ex} : exS P Γ (.setIx i k e) ρ = ((ev P Γ e ρ).fd fun x ρ => (R.opt (isLst (slot ρ i)) ρ).fd fun _ ρ => (look k (ev P Γ k ρ) ρ).fd fun y ρ => setIxD i x y ρ) := s_setIx'_
theorem s_setK'_ {i : Nat} {k e : Ex} : exS P Γ (.setK i k e) ρ = ((ev P Γ e ρ).fl fun x ρ => (R.opt (isDic (slot ρ i)) ρ).fl fun _ ρ => (look k (ev P Γ k ρ) ρ).fl fun y ρ => putC i y x ρ) := rfl
theorem s_setK' {i : Nat} {k e : Ex} : exS P Γ (.setK i k e) ρ = ((ev P Γ e ρ).fd fun x ρ => (R.opt (isDic (slot ρ i)) ρ).fd fun _ ρ => (look k (ev P Γ k ρ) ρ).fd fun y ρ => putC i y x ρ) := s_setK'_
theorem s_augIx'_ {i : Nat} {k e : Ex} {op : Bop} : exS P Γ (.augIx i k op e) ρ = ((R.opt (isLst (slot ρ i)) ρ).fl fun _ ρ => (look k (ev P Γ k ρ) ρ).fl fun y ρ => augIxD i op y (slot ρ i) (fun ρ => ev P Γ e ρ) ρ) := rfl
theorem s_augIx' {i : Nat} {k e : Ex} {op : Bop} : exS P Γ (.augIx i k op e) ρ = ((R.opt (isLst (slot ρ i)) ρ).fd fun _ ρ => (look k (ev P Γ k ρ) ρ).fd fun y ρ => augIxT i op y (slot ρ i) (fun ρ => ev P Γ e ρ) ρ) := s_augIx'_
theorem s_app'_ {i : Nat} {e : Ex} : exS P Γ (.app i e) ρ = ((R.opt (isLst (slot ρ i)) ρ).fl fun _ ρ => (ev P Γ e ρ).fl fun x ρ => appD i x (slot ρ i) ρ) := rfl
theorem s_app' {i : Nat} {e : Ex} : exS P Γ (.app i e) ρ = ((R.opt (isLst (slot ρ i)) ρ).fd fun _ ρ => (ev P Γ e ρ).fd fun x ρ => appD i x (slot ρ i) ρ) := s_app'_
theorem s_expr'_ {e : Ex} : exS P Γ (.expr e) ρ = ((ev P Γ e ρ).fl fun _ ρ => .nx ρ) := rfl
theorem s_expr' {e : Ex} : exS P Γ (.expr e) ρ = ((ev P Γ e ρ).fd fun _ ρ => .nx ρ) := s_expr'_
theorem s_ret'_ {e : Ex} : exS P Γ (.ret e) ρ = ((ev P Γ e ρ).fl fun x ρ => .ret x ρ) := rfl
theorem s_ret' {e : Ex} : exS P Γ (.ret e) ρ = ((ev P Γ e ρ).fd fun x ρ => .ret x ρ) := s_ret'_
theorem s_retN'  : exS P Γ .retN ρ = (.ret (.non, .dp) ρ) := rfl
theorem s_ife'_ {t : Ex} {a b : List Sm} : exS P Γ (.ife t a b) ρ = ((tr P Γ t ρ).fl fun k ρ => if k then exSs P Γ a ρ else exSs P Γ b ρ) := s_ife _ _ _ _ _ _
theorem s_ife' {t : Ex} {a b : List Sm} : exS P Γ (.ife t a b) ρ = ((tr P Γ t ρ).fd fun k ρ => if k then exSs P Γ a ρ else exSs P Γ b ρ) := s_ife'_
theorem s_raise'_ {c : Nat} {e : Ex} : exS P Γ (.raise c e) ρ = ((ev P Γ e ρ).fl fun x ρ => .exc c [(P.ef c, x.1)] ρ) := rfl
theorem s_raise' {c : Nat} {e : Ex} : exS P Γ (.raise c e) ρ = ((ev P Γ e ρ).fd fun x ρ => .exc c [(P.ef c, x.1)] ρ) := s_raise'_
theorem s_brk'  : exS P Γ .brk ρ = (.brk ρ) := rfl
theorem s_cnt'  : exS P Γ .cnt ρ = (.cnt ρ) := rfl
theorem s_pass'  : exS P Γ .pass ρ = (.nx ρ) := rfl
theorem s_forR'_ {i : Nat} {as : List Ex} {b : List Sm} : exS P Γ (.forR i as b) ρ = ((evL P Γ as ρ).fl fun ys ρ => forRD i (rngD (ys.map (·.1))) (fun ρ => exSs P Γ b ρ) ρ) := rfl
theorem s_forR' {i : Nat} {as : List Ex} {b : List Sm} : exS P Γ (.forR i as b) ρ = ((evL P Γ as ρ).fd fun ys ρ => forRT i (rngD (ys.map (·.1))) (fun ρ => exSs P Γ b ρ) ρ) := s_forR'_
theorem s_forL'_ {tu : Bool} {is : List Nat} {e : Ex} {b : List Sm} : exS P Γ (.forL tu is e b) ρ = ((ev P Γ e ρ).fl fun x ρ => forLD tu is x.1 (fun ρ => exSs P Γ b ρ) ρ) := by
  show (ev P Γ e ρ).fl _ = _
  cases ev P Γ e ρ with
  | ok x ρ => cases x with
    | mk d m => cases d <;> rfl
  | _ => rfl
theorem s_forL' {tu : Bool} {is : List Nat} {e : Ex} {b : List Sm} : exS P Γ (.forL tu is e b) ρ = ((ev P Γ e ρ).fd fun x ρ => forLT tu is x.1 (fun ρ => exSs P Γ b ρ) ρ) := s_forL'_
theorem s_setF'_ {i : Nat} {f : Str} {e : Ex} : exS P Γ (.setF i f e) ρ = ((ev P Γ e ρ).fl fun x ρ => setFD P i f x (slot ρ i) ρ) := rfl
theorem s_setF' {i : Nat} {f : Str} {e : Ex} : exS P Γ (.setF i f e) ρ = ((ev P Γ e ρ).fd fun x ρ => setFD P i f x (slot ρ i) ρ) := s_setF'_
theorem s_tri' {b : List Sm} {hs : List (Nat × Option Nat × Hx)} : exS P Γ (.tri b hs) ρ = (triD P hs (exSs P Γ b ρ)) := rfl
end
theorem opt_s {α : Type} {a : α} {ρ : En} : R.opt (some a) ρ = .ok a ρ := rfl
theorem opt_n {α : Type} {ρ : En} : R.opt (none : Option α) ρ = .bad := rfl
theorem bd_eq {α β : Type} {x : R α} {f : α → En → R β} : x.bd f = bdT x f .mk := rfl
theorem fd_eq {α : Type} {x : R α} {f : α → En → Fl} : x.fd f = fdT x f .mk := rfl
theorem sq_eq {x : Fl} {f : En → Fl} : x.sq f = sqT x f .mk := rfl
theorem bdT_ok {α β : Type} {a : α} {ρ : En} {f : α → En → R β} {t : Tok f} : bdT (R.ok a ρ) f t = f a ρ := rfl
theorem bdT_exc {α β : Type} {c : Nat} {fs : List (Str × D)} {ρ : En} {f : α → En → R β} {t : Tok f} : bdT (R.exc c fs ρ : R α) f t = .exc c fs ρ := rfl
theorem fdT_ok {α : Type} {a : α} {ρ : En} {f : α → En → Fl} {t : Tok f} : fdT (R.ok a ρ) f t = f a ρ := rfl
theorem fdT_exc {α : Type} {c : Nat} {fs : List (Str × D)} {ρ : En} {f : α → En → Fl} {t : Tok f} : fdT (R.exc c fs ρ : R α) f t = .exc c fs ρ := rfl
theorem sqT_nx {ρ : En} {f : En → Fl} {t : Tok f} : sqT (.nx ρ) f t = f ρ := rfl
theorem sqT_ret {x : D × Md} {ρ : En} {f : En → Fl} {t : Tok f} : sqT (.ret x ρ) f t = .ret x ρ := rfl
theorem sqT_exc {c : Nat} {fs : List (Str × D)} {ρ : En} {f : En → Fl} {t : Tok f} : sqT (.exc c fs ρ) f t = .exc c fs ρ := rfl
theorem sqT_brk {ρ : En} {f : En → Fl} {t : Tok f} : sqT (.brk ρ) f t = .brk ρ := rfl
theorem sqT_cnt {ρ : En} {f : En → Fl} {t : Tok f} : sqT (.cnt ρ) f t = .cnt ρ := rfl
theorem sqT_if {c : Prop} [Decidable c] {a b : Fl} {f : En → Fl} {t : Tok f} : sqT (if c then a else b) f t = if c then sqT a f t else sqT b f t := by split <;> rfl
theorem fdT_if {α : Type} {c : Prop} [Decidable c] {a b : R α} {f : α → En → Fl} {t : Tok f} : fdT (if c then a else b) f t = if c then fdT a f t else fdT b f t := by split <;> rfl
theorem bdT_if {α β : Type} {c : Prop} [Decidable c] {a b : R α} {f : α → En → R β} {t : Tok f} : bdT (if c then a else b) f t = if c then bdT a f t else bdT b f t := by split <;> rfl
theorem ite_ok {c : Prop} [Decidable c] {a b : Bool} {ρ : En} : (if c then R.ok a ρ else R.ok b ρ) = R.ok (if c then a else b) ρ := by split <;> rfl
theorem ite_oki {c : Prop} [Decidable c] {a b : Int} {m : Md} {ρ : En} : (if c then R.ok (D.int a, m) ρ else R.ok (D.int b, m) ρ) = R.ok (D.int (if c then a else b), m) ρ := by split <;> rfl
theorem bn_add {i j : Int} : binD .add (.int i) (.int j) = some (.int (i + j), .dp) := rfl
theorem bn_sub {i j : Int} : binD .sub (.int i) (.int j) = some (.int (i - j), .dp) := rfl
theorem bn_mul {i j : Int} : binD .mul (.int i) (.int j) = if small i || small j then some (.int (i * j), .dp) else none := rfl
theorem bn_fdiv {i j : Int} : binD .fdiv (.int i) (.int j) = if 0 < j ∧ j < 1073741824 then some (.int (i / j), .dp) else none := by
  show (if decide (0 < j) && decide (j < 1073741824) then _ else _) = _
  simp only [Bool.and_eq_true, decide_eq_true_eq]
theorem bn_mod {i j : Int} : binD .mod (.int i) (.int j) = if 0 < j then some (.int (i % j), .dp) else none := by
  show (if decide (0 < j) then _ else _) = _
  simp only [decide_eq_true_eq]
theorem bn_pow {i j : Int} : binD .pow (.int i) (.int j) = if 0 ≤ j ∧ j ≤ 1000000 ∧ i.natAbs < 18446744073709551616 then some (.int (i ^ j.toNat), .dp) else none := by
  show (if decide (0 ≤ j) && decide (j ≤ 1000000) && decide (i.natAbs < 2 ^ 64) then _ else _) = _
  simp only [Bool.and_eq_true, decide_eq_true_eq, and_assoc, Nat.reducePow]
theorem bn_addl {x y : List D} : binD .add (.lst x) (.lst y) = if x.length + y.length ≤ 16777216 then some (lstM (x ++ y)) else none := by
  show (if decide (x.length + y.length ≤ 16777216) then _ else _) = _
  simp only [decide_eq_true_eq]
theorem bn_mull {xs : List D} {k : Int} : binD .mul (.lst xs) (.int k) = if -9223372036854775808 ≤ k ∧ k < 9223372036854775808 ∧ xs.length * k.toNat ≤ 16777216 then some (lstM (List.replicate k.toNat xs).flatten) else none := by
  show (if decide (-(2 ^ 63) ≤ k) && decide (k < 2 ^ 63) && decide (xs.length * k.toNat ≤ 16777216) then _ else _) = _
  simp only [Bool.and_eq_true, decide_eq_true_eq, and_assoc, Int.reducePow, Int.reduceNeg]
theorem na2 : Int.natAbs 2 = 2 := rfl
theorem na10 : Int.natAbs 10 = 10 := rfl
theorem small_eq {i : Int} : small i = (decide (-18446744073709551616 < i) && decide (i < 18446744073709551616)) := rfl
theorem cm_eq {i j : Int} : cmpD .eq (.int i) (.int j) = some (decide (i = j)) := by simp [cmpD, shp, eqD, SeqAt.shaped, toP, PyData.canLay0, PyData.depth, PyData.eqv, bne, BEq.beq]
theorem cm_ne {i j : Int} : cmpD .ne (.int i) (.int j) = some (decide (i ≠ j)) := by simp [cmpD, shp, eqD, SeqAt.shaped, toP, PyData.canLay0, PyData.depth, PyData.eqv, bne, BEq.beq]
theorem cm_lt {i j : Int} : cmpD .lt (.int i) (.int j) = some (decide (i < j)) := rfl
theorem cm_le {i j : Int} : cmpD .le (.int i) (.int j) = some (decide (i ≤ j)) := rfl
theorem cm_gt {i j : Int} : cmpD .gt (.int i) (.int j) = some (decide (j < i)) := rfl
theorem cm_ge {i j : Int} : cmpD .ge (.int i) (.int j) = some (decide (j ≤ i)) := rfl
theorem ix_lst {xs : List D} {i : Int} : ixD (.lst xs) (.int i) = atI xs i := rfl
theorem ix_tup {xs : List D} {i : Int} : ixD (.tup xs) (.int i) = atI xs i := rfl
theorem slc_lst {xs : List D} {lo hi : Option Int} : slcD (.lst xs) lo hi = some (lstM (cutD xs lo hi)) := rfl
theorem it_m {d : D} : itemM d = (d, if imm d then .dp else .fz) := rfl
theorem ls_m {xs : List D} : lstM xs = (.lst xs, if immL xs then .dp else .rt) := rfl
theorem bi_len_l {xs : List D} : biD .len [.lst xs] = some (.int xs.length, .dp) := rfl
theorem bi_len_t {xs : List D} : biD .len [.tup xs] = some (.int xs.length, .dp) := rfl
theorem bi_len_k {kvs : List (Key × D)} : biD .len [.dK kvs] = some (.int kvs.length, .dp) := rfl
theorem bi_abs {i : Int} : biD .abs [.int i] = some (.int (if i < 0 then -i else i), .dp) := rfl
theorem bi_int {i : Int} : biD .int [.int i] = some (.int i, .dp) := rfl
theorem bi_max2 {i j : Int} : biD .max2 [.int i, .int j] = some (.int (if j > i then j else i), .dp) := rfl
theorem bi_min2 {i j : Int} : biD .min2 [.int i, .int j] = some (.int (if j < i then j else i), .dp) := rfl
theorem bi_list {xs : List D} : biD .list [.lst xs] = some (lstM xs) := rfl
theorem bi_listt {xs : List D} : biD .list [.tup xs] = some (lstM xs) := rfl
theorem bi_sum {ns : List Int} : biD .sum [.lst (ns.map .int)] = some (.int ns.sum, .dp) := by simp only [biD, lstI, ints_map, Option.bind_some, Option.map_some]
theorem bi_max {ns : List Int} : biD .max1 [.lst (ns.map .int)] = (maxI ns).map fun i => (.int i, .dp) := by simp only [biD, lstTI, ints_map, Option.bind_some]
theorem bi_min {ns : List Int} : biD .min1 [.lst (ns.map .int)] = (minI ns).map fun i => (.int i, .dp) := by simp only [biD, lstTI, ints_map, Option.bind_some]
theorem lstOf_n : lstOf [] = (.lst [], .dp) := rfl
theorem lstOf_c {x : D × Md} {xs : List (D × Md)} : lstOf (x :: xs) = (.lst ((x :: xs).map (·.1)), if (x :: xs).all fun x => decide (x.2 = .dp) then .dp else .rt) := rfl
theorem tupOf_eq {xs : List (D × Md)} : tupOf xs = (.tup (xs.map (·.1)), if xs.all fun x => decide (x.2 = .dp) then .dp else .fz) := rfl
theorem cpb_len : Bi.cp .len = false := rfl
theorem cpb_abs : Bi.cp .abs = false := rfl
theorem cpb_int : Bi.cp .int = false := rfl
theorem cpb_sum : Bi.cp .sum = false := rfl
theorem cpb_max1 : Bi.cp .max1 = false := rfl
theorem cpb_min1 : Bi.cp .min1 = false := rfl
theorem cpb_max2 : Bi.cp .max2 = false := rfl
theorem cpb_min2 : Bi.cp .min2 = false := rfl
theorem cpb_all : Bi.cp .all = false := rfl
theorem cpb_any : Bi.cp .any = false := rfl
theorem cpb_list : Bi.cp .list = true := rfl
theorem cpb_sorted : Bi.cp .sorted = true := rfl
theorem is_bl_int {b : Bool} : isD (.bl b) .int = some true := rfl
theorem is_bl_bool {b : Bool} : isD (.bl b) .bool = some true := rfl
theorem is_bl_str {b : Bool} : isD (.bl b) .str = some false := rfl
theorem is_bl_list {b : Bool} : isD (.bl b) .list = some false := rfl
theorem is_bl_tuple {b : Bool} : isD (.bl b) .tuple = some false := rfl
theorem is_bl_dict {b : Bool} : isD (.bl b) .dict = some false := rfl
theorem is_int_int {i : Int} : isD (.int i) .int = some true := rfl
theorem is_int_bool {i : Int} : isD (.int i) .bool = some false := rfl
theorem is_int_str {i : Int} : isD (.int i) .str = some false := rfl
theorem is_int_list {i : Int} : isD (.int i) .list = some false := rfl
theorem is_int_tuple {i : Int} : isD (.int i) .tuple = some false := rfl
theorem is_int_dict {i : Int} : isD (.int i) .dict = some false := rfl
theorem is_str_int {x : Str} : isD (.str x) .int = some false := rfl
theorem is_str_bool {x : Str} : isD (.str x) .bool = some false := rfl
theorem is_str_str {x : Str} : isD (.str x) .str = some true := rfl
theorem is_str_list {x : Str} : isD (.str x) .list = some false := rfl
theorem is_str_tuple {x : Str} : isD (.str x) .tuple = some false := rfl
theorem is_str_dict {x : Str} : isD (.str x) .dict = some false := rfl
theorem is_lst_int {xs : List D} : isD (.lst xs) .int = some false := rfl
theorem is_lst_bool {xs : List D} : isD (.lst xs) .bool = some false := rfl
theorem is_lst_str {xs : List D} : isD (.lst xs) .str = some false := rfl
theorem is_lst_list {xs : List D} : isD (.lst xs) .list = some true := rfl
theorem is_lst_tuple {xs : List D} : isD (.lst xs) .tuple = some false := rfl
theorem is_lst_dict {xs : List D} : isD (.lst xs) .dict = some false := rfl
theorem is_tup_int {xs : List D} : isD (.tup xs) .int = some false := rfl
theorem is_tup_bool {xs : List D} : isD (.tup xs) .bool = some false := rfl
theorem is_tup_str {xs : List D} : isD (.tup xs) .str = some false := rfl
theorem is_tup_list {xs : List D} : isD (.tup xs) .list = some false := rfl
theorem is_tup_tuple {xs : List D} : isD (.tup xs) .tuple = some true := rfl
theorem is_tup_dict {xs : List D} : isD (.tup xs) .dict = some false := rfl
theorem is_non_int  : isD .non .int = some false := rfl
theorem is_non_bool  : isD .non .bool = some false := rfl
theorem is_non_str  : isD .non .str = some false := rfl
theorem is_non_list  : isD .non .list = some false := rfl
theorem is_non_tuple  : isD .non .tuple = some false := rfl
theorem is_non_dict  : isD .non .dict = some false := rfl
theorem is_dK_int {kvs : List (Key × D)} : isD (.dK kvs) .int = some false := rfl
theorem is_dK_bool {kvs : List (Key × D)} : isD (.dK kvs) .bool = some false := rfl
theorem is_dK_str {kvs : List (Key × D)} : isD (.dK kvs) .str = some false := rfl
theorem is_dK_list {kvs : List (Key × D)} : isD (.dK kvs) .list = some false := rfl
theorem is_dK_tuple {kvs : List (Key × D)} : isD (.dK kvs) .tuple = some false := rfl
theorem is_dK_dict {kvs : List (Key × D)} : isD (.dK kvs) .dict = some true := rfl
theorem is_dT_int {kvs : List (List Key × D)} : isD (.dT kvs) .int = some false := rfl
theorem is_dT_bool {kvs : List (List Key × D)} : isD (.dT kvs) .bool = some false := rfl
theorem is_dT_str {kvs : List (List Key × D)} : isD (.dT kvs) .str = some false := rfl
theorem is_dT_list {kvs : List (List Key × D)} : isD (.dT kvs) .list = some false := rfl
theorem is_dT_tuple {kvs : List (List Key × D)} : isD (.dT kvs) .tuple = some false := rfl
theorem is_dT_dict {kvs : List (List Key × D)} : isD (.dT kvs) .dict = some true := rfl
theorem no_bl {k : Bool} {b : Bool} : isNo k (.bl b) = k := rfl
theorem no_int {k : Bool} {i : Int} : isNo k (.int i) = k := rfl
theorem no_str {k : Bool} {x : Str} : isNo k (.str x) = k := rfl
theorem no_lst {k : Bool} {xs : List D} : isNo k (.lst xs) = k := rfl
theorem no_tup {k : Bool} {xs : List D} : isNo k (.tup xs) = k := rfl
theorem no_ins {k : Bool} {c : Nat} {fs : List (Str × D)} : isNo k (.ins c fs) = k := rfl
theorem no_dK {k : Bool} {kvs : List (Key × D)} : isNo k (.dK kvs) = k := rfl
theorem no_dT {k : Bool} {kvs : List (List Key × D)} : isNo k (.dT kvs) = k := rfl
theorem no_non {k : Bool} : isNo k .non = !k := rfl
theorem trD_bl {k : Bool} {ρ : En} : trD (.bl k) ρ = .ok k ρ := rfl
theorem negD_i {i : Int} {ρ : En} : negD (.int i) ρ = .ok (.int (-i), .dp) ρ := rfl
theorem partD_i {i : Int} {ρ : En} : partD (.int i) ρ = .ok (some i) ρ := rfl
theorem bndO_s {ρ : En} : bndO (some ρ) = .nx ρ := rfl
theorem bo_f {i : Nat} {d : D} {ρ : En} : bindOne false [i] d ρ = some (ρ.set i (some (itemM d))) := rfl
theorem bo_t {is : List Nat} {ds : List D} {ρ : En} : bindOne true is (.tup ds) ρ = bindT is ds ρ := rfl
theorem bt_n {ρ : En} : bindT [] [] ρ = some ρ := rfl
theorem bt_c {i : Nat} {is : List Nat} {d : D} {ds : List D} {ρ : En} : bindT (i :: is) (d :: ds) ρ = bindT is ds (ρ.set i (some (itemM d))) := rfl
theorem augA_i {a : Int} {f : Fl} : augA (.int a) f = f := rfl
theorem augB_i_ {op : Bop} {a b : Int} {i : Nat} {ρ : En} : augB op (.int a) (.int b) i ρ = (R.opt (binD op (.int a) (.int b)) ρ).fl fun z ρ => .nx (ρ.set i (some z)) := by
  unfold augB
  dsimp only
  cases binD op (.int a) (.int b) <;> rfl
theorem augB_i {op : Bop} {a b : Int} {i : Nat} {ρ : En} : augB op (.int a) (.int b) i ρ = (R.opt (binD op (.int a) (.int b)) ρ).fd fun z ρ => .nx (ρ.set i (some z)) := augB_i_
theorem isLst_l {xs : List D} {m : Md} : isLst (some (.lst xs, m)) = some () := rfl
theorem setIx_i {i : Nat} {x : D × Md} {z : Int} {ρ : En} : setIxD i x (.int z) ρ = putS i ρ (slot ρ i) (fun xs => (ixN xs.length z).map fun j => xs.set j x.1) x := rfl
theorem augIx_i_ {i : Nat} {op : Bop} {z : Int} {xs : List D} {m : Md} {e : En → R (D × Md)} {ρ : En} : augIxD i op (.int z) (some (.lst xs, m)) e ρ = (R.opt (atI xs z) ρ).fl fun a ρ => augA a ((e ρ).fl fun u ρ => augC i op z xs a u.1 ρ) := by
  unfold augIxD
  dsimp only
  cases atI xs z with
  | none => rfl
  | some a => cases a with
    | int a =>
      show (e ρ).fl _ = (e ρ).fl _
      cases e ρ with
      | ok u ρ => cases u with
        | mk u m => cases u <;> rfl
      | _ => rfl
    | _ => rfl
theorem augIx_i {i : Nat} {op : Bop} {z : Int} {xs : List D} {m : Md} {e : En → R (D × Md)} {ρ : En} : augIxT i op (.int z) (some (.lst xs, m)) e ρ = (R.opt (atI xs z) ρ).fd fun a ρ => augA a ((e ρ).fd fun u ρ => augC i op z xs a u.1 ρ) := augIx_i_
theorem augC_i_ {i : Nat} {op : Bop} {z a b : Int} {xs : List D} {ρ : En} : augC i op z xs (.int a) (.int b) ρ = (R.opt (binD op (.int a) (.int b)) ρ).fl fun r ρ => putS i ρ (slot ρ i) (fun xs => (ixN xs.length z).map fun j => xs.set j r.1) r := by
  unfold augC
  dsimp only
  cases binD op (.int a) (.int b) <;> rfl
theorem augC_i {i : Nat} {op : Bop} {z a b : Int} {xs : List D} {ρ : En} : augC i op z xs (.int a) (.int b) ρ = (R.opt (binD op (.int a) (.int b)) ρ).fd fun r ρ => putS i ρ (slot ρ i) (fun xs => (ixN xs.length z).map fun j => xs.set j r.1) r := augC_i_
theorem putS_dp_ {i : Nat} {x : D × Md} {xs : List D} {f : List D → Option (List D)} {ρ : En} : putS i ρ (some (.lst xs, .dp)) f x = (R.opt (f xs) ρ).fl fun ys ρ => .nx (ρ.set i (some (.lst ys, if x.2 = .dp then .dp else .rt))) := by
  simp only [putS]
  generalize f xs = o
  cases o with
  | none => simp [R.opt, R.fl]
  | some ys => simp [R.opt, R.fl]
theorem putS_dp {i : Nat} {x : D × Md} {xs : List D} {f : List D → Option (List D)} {ρ : En} : putS i ρ (some (.lst xs, .dp)) f x = (R.opt (f xs) ρ).fd fun ys ρ => .nx (ρ.set i (some (.lst ys, if x.2 = .dp then .dp else .rt))) := putS_dp_
theorem putS_rt_ {i : Nat} {x : D × Md} {xs : List D} {f : List D → Option (List D)} {ρ : En} : putS i ρ (some (.lst xs, .rt)) f x = (R.opt (f xs) ρ).fl fun ys ρ => .nx (ρ.set i (some (.lst ys, .rt))) := by
  simp only [putS]
  generalize f xs = o
  cases o with
  | none => simp [R.opt, R.fl]
  | some ys => simp [R.opt, R.fl]
theorem putS_rt {i : Nat} {x : D × Md} {xs : List D} {f : List D → Option (List D)} {ρ : En} : putS i ρ (some (.lst xs, .rt)) f x = (R.opt (f xs) ρ).fd fun ys ρ => .nx (ρ.set i (some (.lst ys, .rt))) := putS_rt_
theorem appD_dp {i : Nat} {x : D × Md} {xs : List D} {ρ : En} : appD i x (some (.lst xs, .dp)) ρ = if xs.length < 16777216 then .nx (ρ.set i (some (.lst (xs ++ [x.1]), if x.2 = .dp then .dp else .rt))) else .bad := by
  rw [appD, putS_dp, show sizeLine = 16777216 from rfl]
  split <;> rfl
theorem appD_rt {i : Nat} {x : D × Md} {xs : List D} {ρ : En} : appD i x (some (.lst xs, .rt)) ρ = if xs.length < 16777216 then .nx (ρ.set i (some (.lst (xs ++ [x.1]), .rt))) else .bad := by
  rw [appD, putS_rt, show sizeLine = 16777216 from rfl]
  split <;> rfl
theorem forR_s {i n : Nat} {lo : Int} {b : En → Fl} {t : Tok b} {ρ : En} : forRQ i (some (lo, n)) b t ρ = fgo (fun d ρ => b (ρ.set i (some (itemM d)))) .mk (rngL lo n) ρ := rfl
theorem forL_l {tu : Bool} {is : List Nat} {ds : List D} {b : En → Fl} {t : Tok b} {ρ : En} : forLQ tu is (.lst ds) b t ρ = fgo (fun d ρ => bndT tu is d b t ρ) .mk ds ρ := rfl
theorem forL_t {tu : Bool} {is : List Nat} {ds : List D} {b : En → Fl} {t : Tok b} {ρ : En} : forLQ tu is (.tup ds) b t ρ = fgo (fun d ρ => bndT tu is d b t ρ) .mk ds ρ := rfl
theorem bndT_eq {tu : Bool} {is : List Nat} {d : D} {b : En → Fl} {t : Tok b} {ρ : En} : bndT tu is d b t ρ = bndQ (bindOne tu is d ρ) b t := rfl
theorem bndQ_s {b : En → Fl} {t : Tok b} {ρ : En} : bndQ (some ρ) b t = b ρ := rfl
theorem augQ_i {i : Nat} {op : Bop} {z : Int} {xs : List D} {m : Md} {e : En → R (D × Md)} {t : Tok e} {ρ : En} : augIxQ i op (.int z) (some (.lst xs, m)) e t ρ = (R.opt (atI xs z) ρ).fd fun a ρ => augA a ((e ρ).fd fun u ρ => augC i op z xs a u.1 ρ) := augIx_i_
theorem cmpR_s {own : List Nat} {tg n : Nat} {lo : Int} {g : En → R Bool} {e : En → R (D × Md)} {t : Tok g} {u : Tok e} {ρ : En} : cmpRQ own tg (some (lo, n)) g e t u ρ = (cgo (fun d ρ => cturn own (some (ρ.set tg (some (itemM d)))) g e t u) .mk (rngL lo n) [] (wipeE own ρ)).bd fun xs ρ => .ok (lstOf xs) ρ := rfl
theorem cmpL_s {own : List Nat} {tu : Bool} {tg : List Nat} {ds : List D} {g : En → R Bool} {e : En → R (D × Md)} {t : Tok g} {u : Tok e} {ρ : En} : cmpLQ own tu tg (.lst ds) g e t u ρ = (cgo (fun d ρ => cturn own (bindOne tu tg d ρ) g e t u) .mk ds [] (wipeE own ρ)).bd fun xs ρ => .ok (lstOf xs) ρ := rfl
theorem cturn_s {own : List Nat} {g : En → R Bool} {e : En → R (D × Md)} {t : Tok g} {u : Tok e} {ρ : En} : cturn own (some ρ) g e t u = (g ρ).bd fun k ρ => if k then (e ρ).bd fun x ρ => .ok (some x) (wipeE own ρ) else .ok none (wipeE own ρ) := rfl
theorem wipe_n {ρ : En} : wipeE [] ρ = ρ := rfl
theorem wipe_c {i : Nat} {r : List Nat} {ρ : En} : wipeE (i :: r) ρ = wipeE r (ρ.set i none) := rfl
theorem rng1 {j : Int} : rngD [.int j] = if -4611686018427387904 ≤ j ∧ j < 4611686018427387904 then some (0, j.toNat) else none := by
  show (if decide (-(2 ^ 62) ≤ j) && decide (j < 2 ^ 62) then _ else _) = _
  simp only [Bool.and_eq_true, decide_eq_true_eq, Int.reducePow, Int.reduceNeg]
theorem rng2 {i j : Int} : rngD [.int i, .int j] = if -4611686018427387904 ≤ i ∧ i < 4611686018427387904 ∧ -4611686018427387904 ≤ j ∧ j < 4611686018427387904 then some (i, (j - i).toNat) else none := by
  show (if decide (-(2 ^ 62) ≤ i) && decide (i < 2 ^ 62) && decide (-(2 ^ 62) ≤ j) && decide (j < 2 ^ 62) then _ else _) = _
  simp only [Bool.and_eq_true, decide_eq_true_eq, and_assoc, Int.reducePow, Int.reduceNeg]
theorem ad_nil {ρ : En} : argsD ρ [] [] = some [] := rfl
theorem ad_cons {ρ : En} {a : VS.Arg} {r : List VS.Arg} {b : Bool} {bs : List Bool} : argsD ρ (a :: r) (b :: bs) = Option.bind (argD ρ a b) fun d => (argsD ρ r bs).map (d :: ·) := rfl
theorem ag_slf {ρ : En} {i : Nat} : argD ρ (.sl i) false = (slot ρ i).map fun dm => (dm.1, if imm dm.1 then .dp else .fz) := by
  show Option.bind (slot ρ i) _ = _
  cases slot ρ i <;> simp
theorem ag_slt {ρ : En} {i : Nat} : argD ρ (.sl i) true = Option.bind (slot ρ i) fun dm => if dm.2 = .rt ∨ dm.2 = .dp then some dm else none := by
  show Option.bind (slot ρ i) _ = _
  cases slot ρ i <;> simp
theorem ag_vlf {ρ : En} {d : D} {m : Md} : argD ρ (.vl d m) false = some (d, if imm d then .dp else .fz) := rfl
theorem ag_vlt {ρ : En} {d : D} {m : Md} : argD ρ (.vl d m) true = if m = .rt ∨ m = .dp then some (d, m) else none := rfl
theorem call_eq_ {Γ : Ga} {f : Nat} {io : List Bool} {as : List VS.Arg} {ρ : En} : callD Γ f io as ρ = if aOk as as io then (R.opt (argsD ρ as io) ρ).bind fun ds ρ => cback as io (Γ f ds) ρ else .bad := call_eq0
theorem call_eq {Γ : Ga} {f : Nat} {io : List Bool} {as : List VS.Arg} {ρ : En} : callD Γ f io as ρ = if aOk as as io then (R.opt (argsD ρ as io) ρ).bd fun ds ρ => cback as io (Γ f ds) ρ else .bad := call_eq_
theorem ok_nil {al : List VS.Arg} : aOk al [] [] = true := rfl
theorem ok_f {al r : List VS.Arg} {a : VS.Arg} {bs : List Bool} : aOk al (a :: r) (false :: bs) = aOk al r bs := by cases a <;> rfl
theorem ok_v {al r : List VS.Arg} {d : D} {m : Md} {bs : List Bool} : aOk al (.vl d m :: r) (true :: bs) = aOk al r bs := rfl
theorem ok_t {al r : List VS.Arg} {i : Nat} {bs : List Bool} : aOk al (.sl i :: r) (true :: bs) = (decide (cntS i al = 1) && aOk al r bs) := rfl
theorem cs_nil {i : Nat} : cntS i [] = 0 := rfl
theorem cs_s {i k : Nat} {r : List VS.Arg} : cntS i (.sl k :: r) = (if k = i then 1 else 0) + cntS i r := rfl
theorem cs_v {i : Nat} {d : D} {m : Md} {r : List VS.Arg} : cntS i (.vl d m :: r) = cntS i r := rfl
theorem cb_ok {as : List VS.Arg} {io : List Bool} {r : D × Md} {outs : List (Nat × (D × Md))} {ρ : En} : cback as io (.ok r outs) ρ = .ok r (puts (decide (r.2 = .dp) && outs.all fun o => decide (o.2.2 = .dp)) 0 as io outs ρ) := rfl
theorem cb_exc {as : List VS.Arg} {io : List Bool} {c : Nat} {fs : List (Str × D)} {ρ : En} : cback as io (.exc c fs) ρ = .exc c fs (puts false 0 as io [] ρ) := rfl
theorem pu_nil {fr : Bool} {j : Nat} {outs : List (Nat × (D × Md))} {ρ : En} {io : List Bool} : puts fr j [] io outs ρ = ρ := by cases io <;> rfl
theorem pu_v {fr b : Bool} {j : Nat} {d : D} {m : Md} {r : List VS.Arg} {bs : List Bool} {outs : List (Nat × (D × Md))} {ρ : En} : puts fr j (.vl d m :: r) (b :: bs) outs ρ = puts fr (j + 1) r bs outs ρ := rfl
theorem pu_t {fr : Bool} {j i : Nat} {r : List VS.Arg} {bs : List Bool} {outs : List (Nat × (D × Md))} {ρ : En} : puts fr j (.sl i :: r) (true :: bs) outs ρ = puts fr (j + 1) r bs outs (ρ.set i (outs.lookup j)) := rfl
theorem pu_f {fr : Bool} {j i : Nat} {r : List VS.Arg} {bs : List Bool} {outs : List (Nat × (D × Md))} {ρ : En} : puts fr j (.sl i :: r) (false :: bs) outs ρ = puts fr (j + 1) r bs outs (if fr then ρ else ρ.set i ((slot ρ i).map fun dm => (dm.1, .fz))) := rfl
theorem at1_0 {α : Type} {a0 : α} : atI [a0] 0 = some a0 := rfl
theorem xn1_0 : ixN 1 0 = some 0 := rfl
theorem at2_0 {α : Type} {a0 a1 : α} : atI [a0, a1] 0 = some a0 := rfl
theorem xn2_0 : ixN 2 0 = some 0 := rfl
theorem at2_1 {α : Type} {a0 a1 : α} : atI [a0, a1] 1 = some a1 := rfl
theorem xn2_1 : ixN 2 1 = some 1 := rfl
theorem at3_0 {α : Type} {a0 a1 a2 : α} : atI [a0, a1, a2] 0 = some a0 := rfl
theorem xn3_0 : ixN 3 0 = some 0 := rfl
theorem at3_1 {α : Type} {a0 a1 a2 : α} : atI [a0, a1, a2] 1 = some a1 := rfl
theorem xn3_1 : ixN 3 1 = some 1 := rfl
theorem at3_2 {α : Type} {a0 a1 a2 : α} : atI [a0, a1, a2] 2 = some a2 := rfl
theorem xn3_2 : ixN 3 2 = some 2 := rfl
theorem at4_0 {α : Type} {a0 a1 a2 a3 : α} : atI [a0, a1, a2, a3] 0 = some a0 := rfl
theorem xn4_0 : ixN 4 0 = some 0 := rfl
theorem at4_1 {α : Type} {a0 a1 a2 a3 : α} : atI [a0, a1, a2, a3] 1 = some a1 := rfl
theorem xn4_1 : ixN 4 1 = some 1 := rfl
theorem at4_2 {α : Type} {a0 a1 a2 a3 : α} : atI [a0, a1, a2, a3] 2 = some a2 := rfl
theorem xn4_2 : ixN 4 2 = some 2 := rfl
theorem at4_3 {α : Type} {a0 a1 a2 a3 : α} : atI [a0, a1, a2, a3] 3 = some a3 := rfl
theorem xn4_3 : ixN 4 3 = some 3 := rfl
theorem at5_0 {α : Type} {a0 a1 a2 a3 a4 : α} : atI [a0, a1, a2, a3, a4] 0 = some a0 := rfl
theorem xn5_0 : ixN 5 0 = some 0 := rfl
theorem at5_1 {α : Type} {a0 a1 a2 a3 a4 : α} : atI [a0, a1, a2, a3, a4] 1 = some a1 := rfl
theorem xn5_1 : ixN 5 1 = some 1 := rfl
theorem at5_2 {α : Type} {a0 a1 a2 a3 a4 : α} : atI [a0, a1, a2, a3, a4] 2 = some a2 := rfl
theorem xn5_2 : ixN 5 2 = some 2 := rfl
theorem at5_3 {α : Type} {a0 a1 a2 a3 a4 : α} : atI [a0, a1, a2, a3, a4] 3 = some a3 := rfl
theorem xn5_3 : ixN 5 3 = some 3 := rfl
theorem at5_4 {α : Type} {a0 a1 a2 a3 a4 : α} : atI [a0, a1, a2, a3, a4] 4 = some a4 := rfl
theorem xn5_4 : ixN 5 4 = some 4 := rfl
theorem at6_0 {α : Type} {a0 a1 a2 a3 a4 a5 : α} : atI [a0, a1, a2, a3, a4, a5] 0 = some a0 := rfl
theorem xn6_0 : ixN 6 0 = some 0 := rfl
theorem at6_1 {α : Type} {a0 a1 a2 a3 a4 a5 : α} : atI [a0, a1, a2, a3, a4, a5] 1 = some a1 := rfl
theorem xn6_1 : ixN 6 1 = some 1 := rfl
theorem at6_2 {α : Type} {a0 a1 a2 a3 a4 a5 : α} : atI [a0, a1, a2, a3, a4, a5] 2 = some a2 := rfl
theorem xn6_2 : ixN 6 2 = some 2 := rfl
theorem at6_3 {α : Type} {a0 a1 a2 a3 a4 a5 : α} : atI [a0, a1, a2, a3, a4, a5] 3 = some a3 := rfl
theorem xn6_3 : ixN 6 3 = some 3 := rfl
theorem at6_4 {α : Type} {a0 a1 a2 a3 a4 a5 : α} : atI [a0, a1, a2, a3, a4, a5] 4 = some a4 := rfl
theorem xn6_4 : ixN 6 4 = some 4 := rfl
theorem at6_5 {α : Type} {a0 a1 a2 a3 a4 a5 : α} : atI [a0, a1, a2, a3, a4, a5] 5 = some a5 := rfl
theorem xn6_5 : ixN 6 5 = some 5 := rfl
theorem popK_i {i : Nat} {k : Int} {o : Option (D × Md)} {ρ : En} : popK i (.int k) o ρ = popS i o (some k) ρ := rfl
theorem ix_dK {kvs : List (Key × D)} {k : D} : ixD (.dK kvs) k = (keyOf k).bind (lkK kvs) := by cases k <;> rfl
theorem ix_dT {kvs : List (List Key × D)} {ks : List D} : ixD (.dT kvs) (.tup ks) = (keysOf ks).bind (lkK kvs) := rfl
theorem bi_listK {kvs : List (Key × D)} : biD .list [.dK kvs] = some (.lst (kvs.map fun p => keyD p.1), .dp) := rfl
theorem bi_listT {kvs : List (List Key × D)} : biD .list [.dT kvs] = some (.lst (kvs.map fun p => keysD p.1), .dp) := rfl
theorem key_i {i : Int} : keyOf (.int i) = some (.inl i) := rfl
theorem key_s {i : Str} : keyOf (.str i) = some (.inr i) := rfl
theorem keys_n : keysOf [] = some [] := rfl
theorem keys_c {d : D} {r : List D} : keysOf (d :: r) = Option.bind (keyOf d) fun k => (keysOf r).map (k :: ·) := rfl
theorem isDic_K {kvs : List (Key × D)} {m : Md} : isDic (some (.dK kvs, m)) = some () := rfl
theorem isDic_T {kvs : List (List Key × D)} {m : Md} : isDic (some (.dT kvs, m)) = some () := rfl
theorem inn_dK {d : D} {kvs : List (Key × D)} : innD d (.dK kvs) = (keyOf d).map fun k => (lkK kvs k).isSome := by cases d <;> rfl
theorem inn_dT {ks : List D} {kvs : List (List Key × D)} : innD (.tup ks) (.dT kvs) = (keysOf ks).map fun k => (lkK kvs k).isSome := rfl
theorem cm_innK {d : D} {kvs : List (Key × D)} : cmpD .inn d (.dK kvs) = (keyOf d).map fun k => (lkK kvs k).isSome := by cases d <;> rfl
theorem cm_innT {ks : List D} {kvs : List (List Key × D)} : cmpD .inn (.tup ks) (.dT kvs) = (keysOf ks).map fun k => (lkK kvs k).isSome := rfl
theorem cm_ninK {d : D} {kvs : List (Key × D)} : cmpD .nin d (.dK kvs) = (keyOf d).map fun k => !(lkK kvs k).isSome := by cases d <;> rfl
theorem cm_ninT {ks : List D} {kvs : List (List Key × D)} : cmpD .nin (.tup ks) (.dT kvs) = (keysOf ks).map fun k => !(lkK kvs k).isSome := by simp only [cmpD, innD]; cases keysOf ks <;> rfl
theorem putC_eq {i : Nat} {y : D} {x : D × Md} {ρ : En} : putC i y x ρ = putCS i y x (slot ρ i) ρ := by unfold putC putCS; rfl
theorem putCK_dp_ {i : Nat} {y : D} {x : D × Md} {kvs : List (Key × D)} {ρ : En} : putCS i y x (some (.dK kvs, .dp)) ρ = (R.opt (keyOf y) ρ).fl fun k ρ => if kvs.length < 16777216 then .nx (ρ.set i (some (.dK (putKD kvs k x.1), if x.2 = .dp then .dp else .rt))) else .bad := by
  simp only [putCS, or_true, if_true, true_and]
  cases keyOf y <;> rfl
theorem putCK_dp {i : Nat} {y : D} {x : D × Md} {kvs : List (Key × D)} {ρ : En} : putCS i y x (some (.dK kvs, .dp)) ρ = (R.opt (keyOf y) ρ).fd fun k ρ => if kvs.length < 16777216 then .nx (ρ.set i (some (.dK (putKD kvs k x.1), if x.2 = .dp then .dp else .rt))) else .bad := putCK_dp_
theorem putCK_rt_ {i : Nat} {y : D} {x : D × Md} {kvs : List (Key × D)} {ρ : En} : putCS i y x (some (.dK kvs, .rt)) ρ = (R.opt (keyOf y) ρ).fl fun k ρ => if kvs.length < 16777216 then .nx (ρ.set i (some (.dK (putKD kvs k x.1), .rt))) else .bad := by
  simp only [putCS, true_or, if_true]
  cases keyOf y <;> rfl
theorem putCK_rt {i : Nat} {y : D} {x : D × Md} {kvs : List (Key × D)} {ρ : En} : putCS i y x (some (.dK kvs, .rt)) ρ = (R.opt (keyOf y) ρ).fd fun k ρ => if kvs.length < 16777216 then .nx (ρ.set i (some (.dK (putKD kvs k x.1), .rt))) else .bad := putCK_rt_
theorem putCT_dp_ {i : Nat} {ks : List D} {x : D × Md} {kvs : List (List Key × D)} {ρ : En} : putCS i (.tup ks) x (some (.dT kvs, .dp)) ρ = (R.opt (keysOf ks) ρ).fl fun k ρ => if kvs.length < 16777216 then .nx (ρ.set i (some (.dT (putKD kvs k x.1), if x.2 = .dp then .dp else .rt))) else .bad := by
  simp only [putCS, or_true, if_true, true_and]
  cases keysOf ks <;> rfl
theorem putCT_dp {i : Nat} {ks : List D} {x : D × Md} {kvs : List (List Key × D)} {ρ : En} : putCS i (.tup ks) x (some (.dT kvs, .dp)) ρ = (R.opt (keysOf ks) ρ).fd fun k ρ => if kvs.length < 16777216 then .nx (ρ.set i (some (.dT (putKD kvs k x.1), if x.2 = .dp then .dp else .rt))) else .bad := putCT_dp_
theorem putCT_rt_ {i : Nat} {ks : List D} {x : D × Md} {kvs : List (List Key × D)} {ρ : En} : putCS i (.tup ks) x (some (.dT kvs, .rt)) ρ = (R.opt (keysOf ks) ρ).fl fun k ρ => if kvs.length < 16777216 then .nx (ρ.set i (some (.dT (putKD kvs k x.1), .rt))) else .bad := by
  simp only [putCS, true_or, if_true]
  cases keysOf ks <;> rfl
theorem putCT_rt {i : Nat} {ks : List D} {x : D × Md} {kvs : List (List Key × D)} {ρ : En} : putCS i (.tup ks) x (some (.dT kvs, .rt)) ρ = (R.opt (keysOf ks) ρ).fd fun k ρ => if kvs.length < 16777216 then .nx (ρ.set i (some (.dT (putKD kvs k x.1), .rt))) else .bad := putCT_rt_
theorem imk_n {κ : Type} : immK ([] : List (κ × D)) = true := rfl
theorem imk_c {κ : Type} {f : κ} {d : D} {r : List (κ × D)} : immK ((f, d) :: r) = (imm d && immK r) := rfl
theorem fld_i_ {P : Pg} {f : Str} {c : Nat} {fs : List (Str × D)} {ρ : En} : fldD P f (.ins c fs) ρ = if P.fo c f = true then (R.opt (fs.lookup f) ρ).bind fun z ρ => .ok (itemM z) ρ else .bad := rfl
theorem fld_i {P : Pg} {f : Str} {c : Nat} {fs : List (Str × D)} {ρ : En} : fldD P f (.ins c fs) ρ = if P.fo c f = true then (R.opt (fs.lookup f) ρ).bd fun z ρ => .ok (itemM z) ρ else .bad := fld_i_
theorem setF_dp {P : Pg} {i c : Nat} {f : Str} {x : D × Md} {fs : List (Str × D)} {ρ : En} : setFD P i f x (some (.ins c fs, .dp)) ρ = if fs.length < 999 ∧ P.fo c f = true then .nx (ρ.set i (some (.ins c (putFD f x.1 fs), if x.2 = .dp then .dp else .rt))) else .bad := by
  simp [setFD]
theorem setF_rt {P : Pg} {i c : Nat} {f : Str} {x : D × Md} {fs : List (Str × D)} {ρ : En} : setFD P i f x (some (.ins c fs, .rt)) ρ = if fs.length < 999 ∧ P.fo c f = true then .nx (ρ.set i (some (.ins c (putFD f x.1 fs), .rt))) else .bad := by
  simp [setFD]
theorem mk_eq_ {Γ : Ga} {c f : Nat} {io : List Bool} {as : List VS.Arg} {ρ : En} : mkD Γ c f io as ρ = if aOk (.vl (.ins c []) .dp :: as) (.vl (.ins c []) .dp :: as) io && decide (io[0]? = some true) then (R.opt (argsD ρ (.vl (.ins c []) .dp :: as) io) ρ).bind fun ds ρ => mback (.vl (.ins c []) .dp :: as) io (Γ f ds) ρ else .bad := mk_eq0
theorem mk_eq {Γ : Ga} {c f : Nat} {io : List Bool} {as : List VS.Arg} {ρ : En} : mkD Γ c f io as ρ = if aOk (.vl (.ins c []) .dp :: as) (.vl (.ins c []) .dp :: as) io && decide (io[0]? = some true) then (R.opt (argsD ρ (.vl (.ins c []) .dp :: as) io) ρ).bd fun ds ρ => mback (.vl (.ins c []) .dp :: as) io (Γ f ds) ρ else .bad := mk_eq_
theorem mb_ok {as : List VS.Arg} {io : List Bool} {m : Md} {outs : List (Nat × (D × Md))} {ρ : En} : mback as io (.ok (.non, m) outs) ρ = mback1 (outs.lookup 0) (puts (decide (m = .dp) && outs.all fun o => decide (o.2.2 = .dp)) 0 as io outs ρ) := rfl
theorem mb_exc {as : List VS.Arg} {io : List Bool} {c : Nat} {fs : List (Str × D)} {ρ : En} : mback as io (.exc c fs) ρ = .exc c fs (puts false 0 as io [] ρ) := rfl
theorem mb1_s {o : D × Md} {ρ : En} : mback1 (some o) ρ = .ok o ρ := rfl
theorem head0 {b : Bool} {r : List Bool} : (b :: r)[0]? = some b := rfl
theorem methT_eq {P : Pg} {Γ : Ga} {i : Nat} {m : Str} {o : Option (D × Md)} {g : En → R (List VS.Arg)} {ρ : En} : methT P Γ i m o g ρ = methQ P Γ i m o g .mk ρ := rfl
theorem methQ_i {P : Pg} {Γ : Ga} {i c : Nat} {m : Str} {fs : List (Str × D)} {md : Md} {g : En → R (List VS.Arg)} {t : Tok g} {ρ : En} : methQ P Γ i m (some (.ins c fs, md)) g t ρ = methC P Γ i (P.mth c m) (fs.lookup m) g t ρ := by
  unfold methQ methC
  rfl
theorem methC_s {P : Pg} {Γ : Ga} {i f : Nat} {g : En → R (List VS.Arg)} {t : Tok g} {ρ : En} : methC P Γ i (some f) none g t ρ = (g ρ).bd fun as ρ => callD Γ f (P.io f) (.sl i :: as) ρ := rfl
theorem imf_n : immF [] = true := rfl
theorem imf_c {f : Str} {d : D} {r : List (Str × D)} : immF ((f, d) :: r) = (imm d && immF r) := rfl
theorem lkN {a k : Nat} {x : D × Md} {r : List (Nat × (D × Md))} : List.lookup a ((k, x) :: r) = if a = k then some x else List.lookup a r := by
  rw [List.lookup_cons]
  by_cases h : a = k
  · simp [h]
  · rw [show (a == k) = false by simpa using h, if_neg h]
theorem end_ret {io : List Bool} {x : D × Md} {ρ : En} : endF io (.ret x ρ) = endO x (outsL ρ 0 io) := by
  unfold endF endO
  rfl
theorem end_nx {io : List Bool} {ρ : En} : endF io (.nx ρ) = endO (.non, .dp) (outsL ρ 0 io) := by
  unfold endF endO
  rfl
theorem end_exc {io : List Bool} {c : Nat} {fs : List (Str × D)} {ρ : En} : endF io (.exc c fs ρ) = .exc c fs := rfl
theorem endO_s {x : D × Md} {os : List (Nat × (D × Md))} : endO x (some os) = .ok x os := rfl
theorem ol_n {ρ : En} {j : Nat} : outsL ρ j [] = some [] := rfl
theorem ol_t {ρ : En} {j : Nat} {bs : List Bool} : outsL ρ j (true :: bs) = Option.bind (slot ρ j) fun o => (outsL ρ (j + 1) bs).map ((j, o) :: ·) := rfl
theorem ol_f {ρ : En} {j : Nat} {bs : List Bool} : outsL ρ j (false :: bs) = outsL ρ (j + 1) bs := rfl
theorem tri_nx {P : Pg} {hs : List (Nat × Option Nat × Hx)} {ρ : En} : triD P hs (.nx ρ) = .nx ρ := rfl
theorem tri_ret {P : Pg} {hs : List (Nat × Option Nat × Hx)} {x : D × Md} {ρ : En} : triD P hs (.ret x ρ) = .ret x ρ := rfl
theorem tri_exc {P : Pg} {hs : List (Nat × Option Nat × Hx)} {c : Nat} {fs : List (Str × D)} {ρ : En} : triD P hs (.exc c fs ρ) = if P.ek c && oneF (P.ef c) fs then clO c fs ρ (clause P c hs) else .bad := rfl
theorem clO_n {c : Nat} {fs : List (Str × D)} {ρ : En} : clO c fs ρ none = .exc c fs ρ := rfl
theorem clO_s {c : Nat} {fs : List (Str × D)} {ρ : En} {i : Nat} {b : Hx} : clO c fs ρ (some (some i, b)) = if i < ρ.length then hxO (hxD fs b) ρ else .bad := by
  show (if _ then _ else _) = _
  simp only [Option.all_some, decide_eq_true_eq]
  rfl
theorem clO_s0 {c : Nat} {fs : List (Str × D)} {ρ : En} {b : Hx} : clO c fs ρ (some (none, b)) = hxO (hxD fs b) ρ := rfl
theorem hxO_s {d : D} {ρ : En} : hxO (some d) ρ = .ret (itemM d) ρ := rfl
theorem cla_n {P : Pg} {c : Nat} : clause P c [] = none := rfl
theorem cla_c {P : Pg} {c k : Nat} {i : Option Nat} {s : Hx} {r : List (Nat × Option Nat × Hx)} : clause P c ((k, i, s) :: r) = if P.sup c k then some (i, s) else clause P c r := rfl
theorem oneF_1 {f g : Str} {d : D} : oneF f [(g, d)] = decide (g = f) := rfl
theorem hx_int {fs : List (Str × D)} {i : Int} : hxD fs (.lit (.int i)) = some (.int i) := rfl
theorem hx_str {fs : List (Str × D)} {i : Str} : hxD fs (.lit (.str i)) = some (.str i) := rfl
theorem hx_bl {fs : List (Str × D)} {i : Bool} : hxD fs (.lit (.bl i)) = some (.bl i) := rfl
theorem hx_non {fs : List (Str × D)} : hxD fs (.lit .non) = some .non := rfl
theorem hx_fld {f : Str} {d : D} : hxD [(f, d)] (.fld f) = some d := by simp [hxD, List.lookup]
theorem hx_tup {fs : List (Str × D)} {l : List Hx} : hxD fs (.tup l) = if l.length ≤ 4 then (hxL fs l).map .tup else none := by simp only [hxD]
theorem hxl_n {fs : List (Str × D)} : hxL fs [] = some [] := by simp only [hxL]
theorem hxl_c {fs : List (Str × D)} {h : Hx} {r : List Hx} : hxL fs (h :: r) = Option.bind (hxD fs h) fun d => (hxL fs r).map (d :: ·) := by simp only [hxL]
theorem end_if {c : Prop} [Decidable c] {a b : Fl} {io : List Bool} : endF io (if c then a else b) = if c then endF io a else endF io b := by split <;> rfl
theorem tri_if {P : Pg} {hs : List (Nat × Option Nat × Hx)} {c : Prop} [Decidable c] {a b : Fl} : triD P hs (if c then a else b) = if c then triD P hs a else triD P hs b := by split <;> rfl
theorem cb_if {c : Prop} [Decidable c] {a b : Rf} {as : List VS.Arg} {io : List Bool} {ρ : En} : cback as io (if c then a else b) ρ = if c then cback as io a ρ else cback as io b ρ := by split <;> rfl
theorem opt_if {α : Type} {c : Prop} [Decidable c] {a b : Option α} {ρ : En} : R.opt (if c then a else b) ρ = if c then R.opt a ρ else R.opt b ρ := by split <;> rfl
theorem ite_tf {c : Prop} [Decidable c] : (if c then true else false) = decide c := by split <;> simp_all
theorem ite_bf {c : Prop} [Decidable c] {b : Bool} : (if c then b else false) = (decide c && b) := by split <;> simp_all
theorem ite_tb {c : Prop} [Decidable c] {b : Bool} : (if c then true else b) = (decide c || b) := by split <;> simp_all
end Ru

set_option Elab.async false
set_option linter.all false
set_option maxRecDepth 100000
/-! WC: loops and comprehensions of the evaluator, for the plain laws. -/
namespace Ru
open PySem PySem.Spec PyProof.Rows L2 VS
theorem szl : sizeLine = 16777216 := rfl
/-- what one turn may end in -/
@[irreducible] def turn (I : En → Prop) (Q : Fl → Prop) : Fl → Prop
  | .nx ρ => I ρ
  | .cnt ρ => I ρ
  | .brk ρ => Q (.nx ρ)
  | o => Q o
theorem turn_nx {I : En → Prop} {Q : Fl → Prop} {ρ : En} : turn I Q (.nx ρ) = I ρ := by unfold turn; rfl
theorem turn_cnt {I : En → Prop} {Q : Fl → Prop} {ρ : En} : turn I Q (.cnt ρ) = I ρ := by unfold turn; rfl
theorem turn_brk {I : En → Prop} {Q : Fl → Prop} {ρ : En} : turn I Q (.brk ρ) = Q (.nx ρ) := by unfold turn; rfl
theorem turn_ret {I : En → Prop} {Q : Fl → Prop} {x : D × Md} {ρ : En} : turn I Q (.ret x ρ) = Q (.ret x ρ) := by unfold turn; rfl
theorem turn_exc {I : En → Prop} {Q : Fl → Prop} {c : Nat} {fs : List (Str × D)} {ρ : En} : turn I Q (.exc c fs ρ) = Q (.exc c fs ρ) := by unfold turn; rfl
theorem turn_bad {I : En → Prop} {Q : Fl → Prop} : turn I Q .bad = Q .bad := by unfold turn; rfl
theorem turn_if {I : En → Prop} {Q : Fl → Prop} {c : Prop} [Decidable c] {a b : Fl} : turn I Q (if c then a else b) ↔ (c → turn I Q a) ∧ (¬ c → turn I Q b) := by split <;> simp_all
theorem iml_range {f : Nat → D} {n : Nat} (h : ∀ k, imm (f k) = true) : immL ((List.range n).map f) = true := iml_map h _
/-- behind one turn -/
def fnext (o : Fl) (f : D → En → Fl) (t : Tok f) (r : List D) : Fl := match o with
  | .nx ρ => fgo f t r ρ
  | .cnt ρ => fgo f t r ρ
  | .brk ρ => .nx ρ
  | o => o
theorem fgo_nil {f : D → En → Fl} {t : Tok f} {ρ : En} : fgo f t [] ρ = .nx ρ := rfl
theorem fgo_cons {f : D → En → Fl} {t : Tok f} {d : D} {r : List D} {ρ : En} : fgo f t (d :: r) ρ = fnext (f d ρ) f t r := rfl
theorem fnext_nx {f : D → En → Fl} {t : Tok f} {r : List D} {ρ : En} : fnext (.nx ρ) f t r = fgo f t r ρ := rfl
theorem fnext_cnt {f : D → En → Fl} {t : Tok f} {r : List D} {ρ : En} : fnext (.cnt ρ) f t r = fgo f t r ρ := rfl
theorem fnext_brk {f : D → En → Fl} {t : Tok f} {r : List D} {ρ : En} : fnext (.brk ρ) f t r = .nx ρ := rfl
theorem fnext_ret {f : D → En → Fl} {t : Tok f} {r : List D} {x : D × Md} {ρ : En} : fnext (.ret x ρ) f t r = .ret x ρ := rfl
theorem fnext_exc {f : D → En → Fl} {t : Tok f} {r : List D} {c : Nat} {fs : List (Str × D)} {ρ : En} : fnext (.exc c fs ρ) f t r = .exc c fs ρ := rfl
theorem forGo_wp {f : D → En → Fl} {t : Tok f} {ds : List D} {Q : Fl → Prop} (I : Nat → En → Prop)
    (h : ∀ k d ρ, ds[k]? = some d → I k ρ → turn (I (k + 1)) Q (f d ρ)) {ρ : En} (h0 : I 0 ρ) (he : ∀ ρ, I ds.length ρ → Q (.nx ρ)) : Q (fgo f t ds ρ) := by
  unfold fgo
  have key : ∀ (es : List D) (k : Nat), ds.drop k = es → k ≤ ds.length → ∀ ρ, I k ρ → Q (forGo f es ρ) := by
    intro es
    induction es with
    | nil =>
      intro k e hl ρ hi
      have : ds.length ≤ k := by simpa using e
      have hk : k = ds.length := by omega
      rw [hk] at hi
      exact he ρ hi
    | cons d r ih =>
      intro k e hl ρ hi
      have hk : ds[k]? = some d := by
        have := congrArg (·[0]?) e
        simpa using this
      have hr : ds.drop (k + 1) = r := by
        rw [← List.drop_drop, e]
        rfl
      have hl' : k + 1 ≤ ds.length := (List.getElem?_eq_some_iff.mp hk).1
      have t := h k d ρ hk hi
      show Q (match f d ρ with
        | .nx ρ => forGo f r ρ
        | .cnt ρ => forGo f r ρ
        | .brk ρ => .nx ρ
        | o => o)
      cases hf : f d ρ with
      | nx ρ' => rw [hf, turn_nx] at t; exact ih (k + 1) hr hl' ρ' t
      | cnt ρ' => rw [hf, turn_cnt] at t; exact ih (k + 1) hr hl' ρ' t
      | brk ρ' => rw [hf, turn_brk] at t; exact t
      | ret x ρ' => rw [hf, turn_ret] at t; exact t
      | exc c fs ρ' => rw [hf, turn_exc] at t; exact t
      | bad => rw [hf, turn_bad] at t; exact t
  exact key ds 0 rfl (Nat.zero_le _) ρ h0
/-- over a range: the item is known -/
theorem forRange_wp {f : D → En → Fl} {t : Tok f} {n : Nat} {lo : Int} {Q : Fl → Prop} (I : Nat → En → Prop)
    (h : ∀ (k : Nat) ρ, k < n → I k ρ → turn (I (k + 1)) Q (f (.int (lo + (k : Int))) ρ)) {ρ : En} (h0 : I 0 ρ) (he : ∀ ρ, I n ρ → Q (.nx ρ)) : Q (fgo f t (rngL lo n) ρ) := by
  refine forGo_wp I (fun k d ρ hk hi => ?_) h0 (fun ρ hi => he ρ (by simpa [rngL] using hi))
  rw [rngL, List.getElem?_map] at hk
  by_cases hn : k < n
  · rw [List.getElem?_range hn] at hk
    have : d = .int (lo + (k : Int)) := (Option.some.inj hk).symm
    subst this
    exact h k ρ hn hi
  · rw [List.getElem?_eq_none (by simpa using hn)] at hk
    cases hk
/-- a comprehension whose turns leave the frame as it is -/
theorem compGo_map {f : D → En → R (Option (D × Md))} {ρ : En} (o : D → Option (D × Md)) : ∀ {ds : List D} {acc : List (D × Md)}, (∀ d, d ∈ ds → f d ρ = .ok (o d) ρ) → acc.length + ds.length ≤ sizeLine → compGo f ds acc ρ = .ok (acc ++ ds.filterMap o) ρ
  | [], acc, _, _ => by simp [compGo]
  | d :: r, acc, h, hl => by
    have e := h d (.head _)
    have hl' : acc.length + (r.length + 1) ≤ sizeLine := hl
    unfold compGo
    rw [e]
    cases ho : o d with
    | none =>
      dsimp only
      rw [compGo_map o (fun d hd => h d (.tail _ hd)) (by omega), List.filterMap_cons, ho]
    | some x =>
      dsimp only
      rw [if_pos (decide_eq_true (by omega)), compGo_map o (fun d hd => h d (.tail _ hd)) (by simp; omega), List.filterMap_cons, ho]
      simp
theorem cgo_map {f : D → En → R (Option (D × Md))} {t : Tok f} {ρ : En} (o : D → Option (D × Md)) {ds : List D} (h : ∀ d, d ∈ ds → f d ρ = .ok (o d) ρ) (hl : ds.length ≤ 16777216) : cgo f t ds [] ρ = .ok (ds.filterMap o) ρ :=
  (compGo_map o h (by have : sizeLine = 16777216 := rfl; rw [this]; simpa using hl)).trans (by simp)
theorem cgo_all {α : Type} {f : D → En → R (Option (D × Md))} {t : Tok f} {ρ : En} {l : List α} {v : α → D} (h : α → D) (H : ∀ a, a ∈ l → f (v a) ρ = .ok (some (h a, .dp)) ρ) (hl : l.length ≤ 16777216) : cgo f t (l.map v) [] ρ = .ok (l.map fun a => (h a, .dp)) ρ := by
  have key : ∀ (l : List α) (acc : List (D × Md)), (∀ a, a ∈ l → f (v a) ρ = .ok (some (h a, .dp)) ρ) → acc.length + l.length ≤ 16777216 → compGo f (l.map v) acc ρ = .ok (acc ++ l.map fun a => (h a, .dp)) ρ := by
    intro l
    induction l with
    | nil => intro acc _ _; simp [compGo]
    | cons a r ih =>
      intro acc H hl
      have hl' : acc.length + (r.length + 1) ≤ 16777216 := hl
      rw [List.map_cons]
      unfold compGo
      rw [H a (.head _)]
      dsimp only
      rw [if_pos (decide_eq_true (show acc.length < sizeLine by rw [szl]; omega)), ih _ (fun b hb => H b (.tail _ hb)) (by simp; omega)]
      simp
  exact (key l [] H (by simpa using hl)).trans (by simp)
theorem cgo_filter {α : Type} {f : D → En → R (Option (D × Md))} {t : Tok f} {ρ : En} {l : List α} {v : α → D} (p : α → Bool) (h : α → D) (H : ∀ a, a ∈ l → f (v a) ρ = .ok (if p a then some (h a, .dp) else none) ρ) (hl : l.length ≤ 16777216) : cgo f t (l.map v) [] ρ = .ok ((l.filter p).map fun a => (h a, .dp)) ρ := by
  have key : ∀ (l : List α) (acc : List (D × Md)), (∀ a, a ∈ l → f (v a) ρ = .ok (if p a then some (h a, .dp) else none) ρ) → acc.length + l.length ≤ 16777216 → compGo f (l.map v) acc ρ = .ok (acc ++ (l.filter p).map fun a => (h a, .dp)) ρ := by
    intro l
    induction l with
    | nil => intro acc _ _; simp [compGo]
    | cons a r ih =>
      intro acc H hl
      have hl' : acc.length + (r.length + 1) ≤ 16777216 := hl
      rw [List.map_cons]
      unfold compGo
      rw [H a (.head _)]
      cases hp : p a with
      | true =>
        simp only [if_true]
        rw [if_pos (decide_eq_true (show acc.length < sizeLine by rw [szl]; omega)), ih _ (fun b hb => H b (.tail _ hb)) (by simp; omega), List.filter_cons, hp]
        simp
      | false =>
        simp only [Bool.false_eq_true, if_false]
        rw [ih _ (fun b hb => H b (.tail _ hb)) (by omega), List.filter_cons, hp]
        simp
  exact (key l [] H (by simpa using hl)).trans (by simp)
theorem lstOf_dp {α : Type} {l : List α} {h : α → D} : lstOf (l.map fun a => (h a, .dp)) = (.lst (l.map h), .dp) := by
  unfold lstOf
  have : ((l.map fun a => (h a, Md.dp)).all fun x => decide (x.2 = Md.dp)) = true := by
    rw [List.all_map, List.all_eq_true]
    intro a _
    rfl
  rw [this, List.map_map]
  rfl
theorem cut_hi {xs : List D} {k : Nat} : VS.cutD xs none (some (k : Int)) = xs.take k := by
  unfold VS.cutD
  rw [HT.sIx_none, HT.sIx_nat, List.drop_zero, Nat.sub_zero]
  by_cases h : k ≤ xs.length
  · rw [Nat.min_eq_left h]
  · rw [Nat.min_eq_right (by omega), List.take_of_length_le (Nat.le_refl _), List.take_of_length_le (by omega)]
theorem cut_lo {xs : List D} {k : Nat} : VS.cutD xs (some (k : Int)) none = xs.drop k := by
  unfold VS.cutD
  rw [HT.sIx_none, HT.sIx_nat]
  by_cases h : k ≤ xs.length
  · rw [Nat.min_eq_left h, List.take_of_length_le (by rw [List.length_drop]; omega)]
  · rw [Nat.min_eq_right (by omega), List.drop_of_length_le (Nat.le_refl _), List.drop_of_length_le (by omega)]
    simp
theorem cgo_none {f : D → En → R (Option (D × Md))} {t : Tok f} {ρ : En} : ∀ {ds : List D}, (∀ d, d ∈ ds → f d ρ = .ok none ρ) → cgo f t ds [] ρ = .ok [] ρ
  | [], _ => rfl
  | d :: r, H => by
    show compGo f (d :: r) [] ρ = _
    unfold compGo
    rw [H d (.head _)]
    exact cgo_none (t := t) fun e he => H e (.tail _ he)
theorem mem_rngL {lo : Int} {n : Nat} {d : D} : d ∈ rngL lo n ↔ ∃ k : Nat, k < n ∧ d = .int (lo + (k : Int)) := by
  unfold rngL
  rw [List.mem_map]
  constructor
  · rintro ⟨k, hk, rfl⟩; exact ⟨k, List.mem_range.mp hk, rfl⟩
  · rintro ⟨k, hk, rfl⟩; exact ⟨k, List.mem_range.mpr hk, rfl⟩
theorem kids_imm {d : D} (h : imm d = true) : kids d = true := by
  cases d with
  | tup xs => simpa [imm, kids] using h
  | lst xs => simp [imm] at h
  | ins c fs => simp [imm] at h
  | dK kvs => simp [imm] at h
  | dT kvs => simp [imm] at h
  | _ => rfl
/-- a parameter that is not changed may be copied -/
theorem cp_arg {d : D} {i : Nat} {ρ : En} : cpS (some (d, if imm d = true then .dp else .fz)) i ρ = .ok d ρ := by
  cases h : imm d with
  | false => rfl
  | true =>
    show (if kids d = true then R.ok d ρ else .ok d (ρ.set i (some (d, .rt)))) = _
    rw [kids_imm h, if_pos rfl]
theorem cp_argt {xs : List D} {i : Nat} {ρ : En} : cpS (some (.tup xs, if immL xs = true then .dp else .fz)) i ρ = .ok (.tup xs) ρ := by
  cases h : immL xs with
  | false => rfl
  | true =>
    show (if kids (D.tup xs) = true then R.ok (D.tup xs) ρ else .ok (D.tup xs) (ρ.set i (some (D.tup xs, .rt)))) = _
    rw [if_pos (show kids (D.tup xs) = true from h)]
theorem cp_dp {d : D} {i : Nat} {ρ : En} (h : imm d = true) : cpS (some (d, .dp)) i ρ = .ok d ρ := by
  show (if kids d = true then R.ok d ρ else .ok d (ρ.set i (some (d, .rt)))) = _
  rw [kids_imm h, if_pos rfl]
theorem mem_lt {α : Type} {xs : List α} {k : Nat} (h : k < xs.length) : xs[k]? = some xs[k] := List.getElem?_eq_getElem h
/-- data that is only looked at -/
def LkP (d : D) : Prop := d = .non ∨ (∃ b, d = .bl b) ∨ (∃ i, d = .int i) ∨ (∃ s, d = .str s ∧ PyData.strOk s = true)
def Lk : Nat → D → Prop
  | 0, d => LkP d
  | k + 1, d => LkP d ∨ (∃ xs, (d = .lst xs ∨ d = .tup xs) ∧ (xs.length : Int) < 1000000 ∧ ∀ x, x ∈ xs → Lk k x)
theorem Lk.of {k : Nat} {d : D} (h : LkP d) : Lk k d := by
  cases k with
  | zero => exact h
  | succ k => exact .inl h
theorem lkd_int (k : Nat) (i : Int) : Lk k (.int i) := .of (.inr (.inr (.inl ⟨i, rfl⟩)))
theorem lkd_str (k : Nat) {s : Str} (h : PyData.strOk s = true) : Lk k (.str s) := .of (.inr (.inr (.inr ⟨s, rfl, h⟩)))
theorem lkd_lst {k : Nat} {xs : List D} (hl : (xs.length : Int) < 1000000) (h : ∀ x, x ∈ xs → Lk k x) : Lk (k + 1) (.lst xs) := .inr ⟨xs, .inl rfl, hl, h⟩
theorem lkd_tup {k : Nat} {xs : List D} (hl : (xs.length : Int) < 1000000) (h : ∀ x, x ∈ xs → Lk k x) : Lk (k + 1) (.tup xs) := .inr ⟨xs, .inr rfl, hl, h⟩
/-- a list written so many times -/
def rep {α : Type} (k : Nat) (l : List α) : List α := (List.replicate k l).flatten
theorem rep_map {α β : Type} {f : α → β} {k : Nat} {l : List α} : (List.replicate k (l.map f)).flatten = (rep k l).map f := by
  unfold rep
  rw [List.map_flatten, List.map_replicate]
theorem rep_len {α : Type} {k : Nat} {l : List α} : (rep k l).length = k * l.length := by simp [rep]
theorem rep_s {α : Type} {k : Nat} {l : List α} : rep (k + 1) l = l ++ rep k l := by simp [rep, List.replicate_succ]
theorem rep_mem {α : Type} {k : Nat} {l : List α} {x : α} (h : x ∈ rep k l) : x ∈ l := by
  induction k with
  | zero => simp [rep] at h
  | succ k ih =>
    rw [rep_s, List.mem_append] at h
    exact h.elim id ih
theorem rep_get {α : Type} {k : Nat} {l : List α} {i : Nat} (h : i < k * l.length) : (rep k l)[i]? = l[i % l.length]? := by
  induction k generalizing i with
  | zero => omega
  | succ k ih =>
    rw [rep_s]
    by_cases c : i < l.length
    · rw [List.getElem?_append_left c, Nat.mod_eq_of_lt c]
    · rw [Nat.succ_mul] at h
      rw [List.getElem?_append_right (by omega), ih (by omega), show i % l.length = (i - l.length) % l.length from Nat.mod_eq_sub_mod (by omega)]
theorem rep_one {α : Type} {t : Nat} {x : α} : (List.replicate t [x]).flatten = List.replicate t x := by
  induction t with
  | zero => rfl
  | succ t ih => rw [List.replicate_succ, List.flatten_cons, ih]; rfl
theorem iml_repi {t : Nat} {i : Int} : immL (List.replicate t (D.int i)) = true := by
  induction t with
  | zero => simp [immL]
  | succ t ih => rw [List.replicate_succ]; simp [immL, imm, ih]
theorem bi_max_2 {a b : Int} : biD .max1 [.lst [.int a, .int b]] = some (.int (if a < b then b else a), .dp) := rfl
theorem bi_min_2 {a b : Int} : biD .min1 [.lst [.int a, .int b]] = some (.int (if b < a then b else a), .dp) := rfl
theorem prs_map (l : List (Int × Int)) : prsD (l.map VS.prD) = some l := by
  induction l with
  | nil => rfl
  | cons a r ih => simp [prsD, VS.prD] at ih ⊢; exact ih
theorem bi_sorted {l : List (Int × Int)} : biD .sorted [.lst (l.map VS.prD)] = some (.lst ((sortP l).map VS.prD), .dp) := by
  cases l with
  | nil => simp [biD, sortedD, intsD, sortI, sortP]
  | cons a r =>
    have : intsD ((a :: r).map VS.prD) = none := rfl
    simp only [biD, sortedD, this, prs_map, Option.map_some]
theorem pop_snoc_dp {i : Nat} {xs : List D} {d : D} {ρ : En} : popS i (some (.lst (xs ++ [d]), .dp)) none ρ = .ok (itemM d) (ρ.set i (some (.lst xs, if imm d = true then .dp else .rt))) := by
  have h1 : ¬ (xs ++ [d]).length = 0 := by simp
  have h2 : (xs ++ [d])[(xs ++ [d]).length - 1]? = some d := by simp
  have h3 : (xs ++ [d]).eraseIdx ((xs ++ [d]).length - 1) = xs := by
    rw [List.length_append, List.length_singleton, Nat.add_sub_cancel, List.eraseIdx_append_of_length_le (Nat.le_refl _), Nat.sub_self]
    simp
  unfold popS popG
  simp only [or_true, if_true, h1, if_false, h2, h3]
  cases imm d <;> rfl
theorem pop_at_dp {i j : Nat} {k : Int} {xs : List D} {d : D} {ρ : En} (hk : k = (j : Nat)) (hj : xs[j]? = some d) (hs : xs.length < 1000000) : popS i (some (.lst xs, .dp)) (some k) ρ = .ok (itemM d) (ρ.set i (some (.lst (xs.eraseIdx j), if imm d = true then .dp else .rt))) := by
  have hl : j < xs.length := (List.getElem?_eq_some_iff.mp hj).1
  have h1 : seqIndex? k xs.length = some j := by
    rw [seqIndex_of (by omega) (by omega), hk]
    rfl
  have h2 : (decide (-(2 ^ 63) ≤ k) && decide (k < 2 ^ 63)) = true := by simp; omega
  unfold popS popG
  simp only [or_true, if_true, h2, h1, hj]
  cases imm d <;> rfl
theorem lk_tup_none {l : List (Int × Int)} {p : Int × Int} (h : p ∉ l) (v : D) : lkK (l.map fun q => (([.inl q.1, .inl q.2] : List Key), v)) [.inl p.1, .inl p.2] = none := by
  induction l with
  | nil => rfl
  | cons q r ih =>
    have h1 : ¬ (([.inl q.1, .inl q.2] : List Key) = [.inl p.1, .inl p.2]) := fun e => by
      injection e with e1 e2
      injection e2 with e2 e3
      injection e1 with e1
      injection e2 with e2
      exact h (by rw [show q = p from Prod.ext e1 e2]; exact .head _)
    rw [List.map_cons]
    unfold lkK
    rw [if_neg h1]
    exact ih fun z => h (.tail _ z)
theorem put_tup_new {l : List (Int × Int)} {p : Int × Int} (h : p ∉ l) (v : D) : putKD (l.map fun q => (([.inl q.1, .inl q.2] : List Key), v)) [.inl p.1, .inl p.2] v = (l ++ [p]).map fun q => (([.inl q.1, .inl q.2] : List Key), v) := by
  unfold putKD
  have : ((l.map fun q => (([.inl q.1, .inl q.2] : List Key), v)).any fun kv => decide (kv.1 = [.inl p.1, .inl p.2])) = false := by
    rw [List.any_map, List.any_eq_false]
    intro q hq e
    have e := of_decide_eq_true e
    injection e with e1 e2
    injection e2 with e2 e3
    injection e1 with e1
    injection e2 with e2
    exact h (by rw [← show q = p from Prod.ext e1 e2]; exact hq)
  rw [this, List.map_append]
  rfl
/-- a comprehension in general -/
theorem compGo_wp {f : D → En → R (Option (D × Md))} {t : Tok f} {ds : List D} {Q : R (List (D × Md)) → Prop} (I : Nat → List (D × Md) → En → Prop)
    (h : ∀ k d acc ρ, ds[k]? = some d → I k acc ρ → (∃ x ρ', f d ρ = .ok (some x) ρ' ∧ acc.length < sizeLine ∧ I (k + 1) (acc ++ [x]) ρ') ∨ (∃ ρ', f d ρ = .ok none ρ' ∧ I (k + 1) acc ρ'))
    {ρ : En} {acc : List (D × Md)} (h0 : I 0 acc ρ) (he : ∀ acc ρ, I ds.length acc ρ → Q (.ok acc ρ)) : Q (cgo f t ds acc ρ) := by
  unfold cgo
  have key : ∀ (es : List D) (k : Nat), ds.drop k = es → k ≤ ds.length → ∀ acc ρ, I k acc ρ → Q (compGo f es acc ρ) := by
    intro es
    induction es with
    | nil =>
      intro k e hl acc ρ hi
      have : ds.length ≤ k := by simpa using e
      have hk : k = ds.length := by omega
      rw [hk] at hi
      exact he acc ρ hi
    | cons d r ih =>
      intro k e hl acc ρ hi
      have hk : ds[k]? = some d := by
        have := congrArg (·[0]?) e
        simpa using this
      have hr : ds.drop (k + 1) = r := by
        rw [← List.drop_drop, e]
        rfl
      have hl' : k + 1 ≤ ds.length := (List.getElem?_eq_some_iff.mp hk).1
      unfold compGo
      rcases h k d acc ρ hk hi with ⟨x, ρ', e, hs, hi⟩ | ⟨ρ', e, hi⟩
      · rw [e]
        dsimp only
        rw [if_pos (decide_eq_true hs)]
        exact ih (k + 1) hr hl' _ _ hi
      · rw [e]
        exact ih (k + 1) hr hl' _ _ hi
  exact key ds 0 rfl (Nat.zero_le _) acc ρ h0
/-- may be asked for ==, at most so deep -/
def Shd (k : Nat) (d : D) : Prop := (toP d).canLay0 = true ∧ (toP d).depth ≤ k
theorem shp_of {d : D} (h : Shd 64 d) : shp d = true := by
  unfold shp SeqAt.shaped
  rw [h.1, decide_eq_true h.2]
  rfl
theorem Shd.mono {k k' : Nat} {d : D} (h : Shd k d) (hk : k ≤ k') : Shd k' d := ⟨h.1, Nat.le_trans h.2 hk⟩
theorem shd_int (k : Nat) (i : Int) : Shd k (.int i) := ⟨by simp [toP, PyData.canLay0], by simp [toP, PyData.depth]⟩
theorem shd_bl (k : Nat) (i : Bool) : Shd k (.bl i) := ⟨by simp [toP, PyData.canLay0], by simp [toP, PyData.depth]⟩
theorem shd_non (k : Nat) : Shd k .non := ⟨by simp [toP, PyData.canLay0], by simp [toP, PyData.depth]⟩
theorem shd_str (k : Nat) {x : Str} (h : PyData.strOk x = true) : Shd k (.str x) := ⟨by simp [toP, PyData.canLay0, h], by simp [toP, PyData.depth]⟩
theorem shd_all {k : Nat} : ∀ {xs : List D}, (∀ x, x ∈ xs → Shd k x) → PyData.canLayAll0 (toPs xs) = true ∧ PyData.depthAll (toPs xs) ≤ k
  | [], _ => ⟨by simp [toPs, PyData.canLayAll0], by simp [toPs, PyData.depthAll]⟩
  | x :: r, h => by
    have h1 := h x (.head _)
    have h2 := shd_all (xs := r) fun y hy => h y (.tail _ hy)
    refine ⟨by simp [toPs, PyData.canLayAll0, h1.1, h2.1], ?_⟩
    have a := h1.2
    have b := h2.2
    simp only [toPs, PyData.depthAll]
    omega
theorem shd_lst {k : Nat} {xs : List D} (h : ∀ x, x ∈ xs → Shd k x) : Shd (k + 1) (.lst xs) := by
  have := shd_all h
  exact ⟨by simp [toP, PyData.canLay0, this.1], by simp only [toP, PyData.depth]; omega⟩
theorem shd_tup {k : Nat} {xs : List D} (h : ∀ x, x ∈ xs → Shd k x) : Shd (k + 1) (.tup xs) := by
  have := shd_all h
  exact ⟨by simp [toP, PyData.canLay0, this.1], by simp only [toP, PyData.depth]; omega⟩
theorem shd_ints (k : Nat) (l : List Int) : Shd (k + 1) (.lst (l.map .int)) := shd_lst fun x hx => by
  obtain ⟨i, _, rfl⟩ := List.mem_map.mp hx
  exact shd_int k i
theorem shd_prs (k : Nat) (l : List (Int × Int)) : Shd (k + 2) (.lst (l.map VS.prD)) := shd_lst fun x hx => by
  obtain ⟨i, _, rfl⟩ := List.mem_map.mp hx
  refine shd_tup fun y hy => ?_
  simp only [List.mem_cons, List.not_mem_nil, or_false] at hy
  rcases hy with rfl | rfl <;> exact shd_int _ _
mutual
theorem eqv_refl : ∀ d : PyData, d.canLay0 = true → PyData.eqv d d = true
  | .none, _ => by simp [PyData.eqv]
  | .bool b, _ => by simp [PyData.eqv]
  | .int b, _ => by simp [PyData.eqv]
  | .str b, _ => by simp [PyData.eqv]
  | .list xs, h => by simp only [PyData.eqv]; exact eqvAll_refl xs (by simpa [PyData.canLay0] using h)
  | .tuple xs, h => by simp only [PyData.eqv]; exact eqvAll_refl xs (by simpa [PyData.canLay0] using h)
  | .dict _, h => by simp [PyData.canLay0] at h
theorem eqvAll_refl : ∀ l : List PyData, PyData.canLayAll0 l = true → PyData.eqvAll l l = true
  | [], _ => by simp [PyData.eqvAll]
  | d :: r, h => by
    have h : d.canLay0 = true ∧ PyData.canLayAll0 r = true := by simpa [PyData.canLayAll0] using h
    simp [PyData.eqvAll, eqv_refl d h.1, eqvAll_refl r h.2]
end
theorem eqD_refl {k : Nat} {d : D} (h : Shd k d) : eqD d d = true := eqv_refl _ h.1
theorem eqD_ints : ∀ a b : List Int, eqD (.lst (a.map .int)) (.lst (b.map .int)) = decide (a = b)
  | [], [] => by simp [eqD, toP, toPs, PyData.eqv, PyData.eqvAll]
  | [], _ :: _ => by simp [eqD, toP, toPs, PyData.eqv, PyData.eqvAll]
  | _ :: _, [] => by simp [eqD, toP, toPs, PyData.eqv, PyData.eqvAll]
  | x :: a, y :: b => by
    have ih := eqD_ints a b
    simp only [eqD, toP, PyData.eqv] at ih
    simp only [eqD, List.map_cons, toP, toPs, PyData.eqv, PyData.eqvAll, ih, List.cons.injEq, Bool.decide_and]
    congr 1
theorem cmp_eq {d e : D} : cmpD .eq d e = if shp d && shp e then some (eqD d e) else none := rfl
theorem cmp_ne {d e : D} : cmpD .ne d e = if shp d && shp e then some (!eqD d e) else none := rfl
theorem cmp_eq_same {d : D} (h : Shd 64 d) : cmpD .eq d d = some true := by rw [cmp_eq, shp_of h, eqD_refl h]; rfl
theorem cmp_ne_same {d : D} (h : Shd 64 d) : cmpD .ne d d = some false := by rw [cmp_ne, shp_of h, eqD_refl h]; rfl
theorem cmp_bl_eq {a b : Bool} : cmpD .eq (.bl a) (.bl b) = some (a == b) := by rw [cmp_eq, shp_of (shd_bl _ _), shp_of (shd_bl _ _)]; simp [eqD, toP, PyData.eqv]
theorem cmp_bl_ne {a b : Bool} : cmpD .ne (.bl a) (.bl b) = some (!(a == b)) := by rw [cmp_ne, shp_of (shd_bl _ _), shp_of (shd_bl _ _)]; simp [eqD, toP, PyData.eqv]
theorem atI_get? {α : Type} {xs : List α} {j : Nat} : atI xs (j : Int) = xs[j]? := by
  by_cases h : j < xs.length
  · rw [List.getElem?_eq_getElem h]
    exact atI_nat (List.getElem?_eq_getElem h)
  · rw [List.getElem?_eq_none (by omega)]
    unfold atI ixN
    rw [if_pos (by omega), if_neg (by omega)]
    rfl
theorem atI_of {α : Type} {xs : List α} {j : Nat} {i : Int} (h : i = (j : Int)) : atI xs i = xs[j]? := by rw [h, atI_get?]
end Ru

set_option Elab.async false
set_option linter.all false
/-! XA: voices in plain Lean: runs, flags, notes, rounds. -/
namespace Vo
/-- open lines just ahead of moment t -/
def op (r : Nat → Bool) : Nat → Nat
  | 0 => 0
  | t + 1 => if r t then op r t + 1 else 0
/-- closed lines just ahead of moment t; none: endless -/
def cl (r : Nat → Bool) : Nat → Option Nat
  | 0 => none
  | t + 1 => if r t then some 0 else (cl r t).map (· + 1)
def cg (g : Nat) : Option Nat → Bool
  | none => true
  | some k => decide (g ≤ k)
/-- what moment t does -/
def ev (r : Nat → Bool) (a g t : Nat) : Option Bool := if a ≤ op r t then some true else if cg g (cl r t) then some false else none
def fl (r : Nat → Bool) (a g : Nat) : Nat → Bool
  | 0 => (ev r a g 0).getD false
  | t + 1 => (ev r a g (t + 1)).getD (fl r a g t)
theorem fl_s (r : Nat → Bool) (a g t : Nat) : fl r a g (t + 1) = (ev r a g (t + 1)).getD (fl r a g t) := rfl
theorem fl_0 {r : Nat → Bool} {a g : Nat} (h : 1 ≤ a) : fl r a g 0 = false := by
  have : ¬ a ≤ 0 := by omega
  simp [fl, ev, op, cl, cg, this]
/-- only the lines ahead count -/
theorem op_congr {r q : Nat → Bool} {n : Nat} (h : ∀ k, k < n → r k = q k) : ∀ t, t ≤ n → op r t = op q t
  | 0, _ => rfl
  | t + 1, ht => by simp only [op, h t (by omega), op_congr h t (by omega)]
theorem cl_congr {r q : Nat → Bool} {n : Nat} (h : ∀ k, k < n → r k = q k) : ∀ t, t ≤ n → cl r t = cl q t
  | 0, _ => rfl
  | t + 1, ht => by simp only [cl, h t (by omega), cl_congr h t (by omega)]
theorem ev_congr {r q : Nat → Bool} {n : Nat} (h : ∀ k, k < n → r k = q k) (a g t : Nat) (ht : t ≤ n) : ev r a g t = ev q a g t := by
  simp only [ev, op_congr h t ht, cl_congr h t ht]
theorem fl_congr {r q : Nat → Bool} {n : Nat} (h : ∀ k, k < n → r k = q k) (a g : Nat) : ∀ t, t ≤ n → fl r a g t = fl q a g t
  | 0, ht => by simp only [fl, ev_congr h a g 0 ht]
  | t + 1, ht => by simp only [fl, ev_congr h a g _ ht, fl_congr h a g t (by omega)]
/-- a note -/
structure Note (f : Nat → Bool) (b e : Nat) : Prop where
  lt : b < e
  pos : 1 ≤ b
  z : f (b - 1) = false
  one : ∀ t, b ≤ t → t < e → f t = true
  e0 : f e = false
/-- where the last note began, by the turns of a loop -/
def bg (f : Nat → Bool) : Nat → Nat
  | 0 => 0
  | t + 1 => if f (t + 1) && !f t then t + 1 else bg f t
def nts (f : Nat → Bool) : Nat → List (Nat × Nat)
  | 0 => []
  | t + 1 => if f t && !f (t + 1) then nts f t ++ [(bg f t, t + 1)] else nts f t
theorem bg_spec {f : Nat → Bool} (h0 : f 0 = false) : ∀ t, f t = true → 1 ≤ bg f t ∧ bg f t ≤ t ∧ f (bg f t - 1) = false ∧ ∀ u, bg f t ≤ u → u ≤ t → f u = true
  | 0, h => by rw [h0] at h; cases h
  | t + 1, h => by
    by_cases ht : f t = true
    · have := bg_spec h0 t ht
      simp only [bg, h, ht, Bool.not_true, Bool.and_false, Bool.false_eq_true, if_false]
      refine ⟨this.1, by omega, this.2.2.1, fun u hu hv => ?_⟩
      by_cases e : u = t + 1
      · rw [e, h]
      · exact this.2.2.2 u hu (by omega)
    · have hf : f t = false := by simpa using ht
      simp only [bg, h, hf, Bool.not_false, Bool.and_true, if_true]
      refine ⟨by omega, by omega, hf, fun u hu hv => ?_⟩
      rw [show u = t + 1 by omega, h]
theorem note_uniq {f : Nat → Bool} {b e b' : Nat} (h : Note f b e) (h' : Note f b' e) : b = b' := by
  rcases Nat.lt_trichotomy b b' with k | k | k
  · have := h.one (b' - 1) (by have := h'.pos; omega) (by have := h'.lt; omega)
    rw [h'.z] at this; cases this
  · exact k
  · have := h'.one (b - 1) (by have := h.pos; omega) (by have := h.lt; omega)
    rw [h.z] at this; cases this
theorem note_end {f : Nat → Bool} {b e e' : Nat} (h : Note f b e) (h' : Note f b e') : e = e' := by
  rcases Nat.lt_trichotomy e e' with k | k | k
  · have := h'.one e (by have := h.lt; omega) k
    rw [h.e0] at this; cases this
  · exact k
  · have := h.one e' (by have := h'.lt; omega) k
    rw [h'.e0] at this; cases this
theorem mem_nts {f : Nat → Bool} (h0 : f 0 = false) : ∀ (n b e : Nat), (b, e) ∈ nts f n ↔ Note f b e ∧ e ≤ n
  | 0, b, e => by
    simp only [nts, List.not_mem_nil, false_iff]
    rintro ⟨h, he⟩
    have := h.lt; omega
  | n + 1, b, e => by
    have ih := mem_nts h0 n b e
    by_cases c : f n = true ∧ f (n + 1) = false
    · have sp := bg_spec h0 n c.1
      simp only [nts, c.1, c.2, Bool.not_false, Bool.and_true, if_true, List.mem_append, ih, List.mem_cons, List.not_mem_nil, or_false, Prod.mk.injEq]
      have N : Note f (bg f n) (n + 1) := ⟨by omega, sp.1, sp.2.2.1, fun t h1 h2 => sp.2.2.2 t h1 (by omega), c.2⟩
      constructor
      · rintro (⟨h, he⟩ | ⟨rfl, rfl⟩)
        · exact ⟨h, by omega⟩
        · exact ⟨N, by omega⟩
      · rintro ⟨h, he⟩
        by_cases k : e = n + 1
        · subst k
          exact .inr ⟨note_uniq h N, rfl⟩
        · exact .inl ⟨h, by omega⟩
    · have : (f n && !f (n + 1)) = false := by
        cases h1 : f n <;> cases h2 : f (n + 1) <;> simp_all
      simp only [nts, this, Bool.false_eq_true, if_false, ih]
      constructor
      · rintro ⟨h, he⟩; exact ⟨h, by omega⟩
      · rintro ⟨h, he⟩
        refine ⟨h, ?_⟩
        by_cases k : e = n + 1
        · subst k
          exact absurd ⟨h.one n (by have := h.lt; omega) (by omega), h.e0⟩ c
        · omega
/-- of two notes the earlier ends ahead of the later's begin -/
theorem note_lt {f : Nat → Bool} {b e b' e' : Nat} (h : Note f b e) (h' : Note f b' e') (k : e < e') : e < b' := by
  rcases Nat.lt_trichotomy e b' with q | q | q
  · exact q
  · have := h'.one b' (by omega) h'.lt
    rw [← q, h.e0] at this; cases this
  · have := h'.one e (by omega) k
    rw [h.e0] at this; cases this
theorem sorted_nts {f : Nat → Bool} (h0 : f 0 = false) : ∀ n, (nts f n).Pairwise fun p q => p.1 < q.1
  | 0 => .nil
  | n + 1 => by
    by_cases c : f n = true ∧ f (n + 1) = false
    · simp only [nts, c.1, c.2, Bool.not_false, Bool.and_true, if_true]
      refine List.pairwise_append.mpr ⟨sorted_nts h0 n, List.pairwise_singleton _ _, fun p hp q hq => ?_⟩
      have hq : q = (bg f n, n + 1) := by simpa using hq
      subst hq
      have hp := (mem_nts h0 n p.1 p.2).mp hp
      have sp := bg_spec h0 n c.1
      have N : Note f (bg f n) (n + 1) := ⟨by omega, sp.1, sp.2.2.1, fun t h1 h2 => sp.2.2.2 t h1 (by omega), c.2⟩
      have := note_lt hp.1 N (by omega)
      have := hp.1.lt
      show p.1 < bg f n
      omega
    · have : (f n && !f (n + 1)) = false := by
        cases h1 : f n <;> cases h2 : f (n + 1) <;> simp_all
      simp only [nts, this, Bool.false_eq_true, if_false]
      exact sorted_nts h0 n
/-- strictly sorted lists with the same items are equal -/
theorem ext_sorted {α : Type} {k : α → Int} {l m : List α} (hl : l.Pairwise fun p q => k p < k q) (hm : m.Pairwise fun p q => k p < k q) (h : ∀ x, x ∈ l ↔ x ∈ m) : l = m := by
  have nd : ∀ {l : List α}, (l.Pairwise fun p q => k p < k q) → l.Nodup := fun h => h.imp fun {a b} e => by rintro rfl; omega
  refine List.Perm.eq_of_pairwise (le := fun p q => k p < k q) (fun a b _ _ h1 h2 => ?_) hl hm ((List.perm_ext_iff_of_nodup (nd hl) (nd hm)).mpr h)
  omega
/-! ### rows read round and round -/
section
variable {q q' : Nat → Bool} {a g m by' : Nat}
theorem per_mul (h : ∀ k, q (k + m) = q k) (k j : Nat) : q (k + j * m) = q k := by
  induction j with
  | zero => simp
  | succ j ih => rw [Nat.succ_mul, ← Nat.add_assoc, h, ih]
theorem per_mod (h : ∀ k, q (k + m) = q k) (k : Nat) : q (k % m) = q k := by
  have := per_mul h (k % m) (k / m)
  rw [Nat.mul_comm, Nat.mod_add_div] at this
  exact this.symm
theorem op_all {q : Nat → Bool} (h : ∀ k, q k = true) : ∀ t, op q t = t
  | 0 => rfl
  | t + 1 => by simp [op, h, op_all h t]
theorem cl_all {q : Nat → Bool} (h : ∀ k, q k = true) : ∀ t, cl q (t + 1) = some 0
  | t => by simp [cl, h]
theorem op_shift (h : ∀ k, q' (k + by') = q k) {z : Nat} (hz : q z = false) : ∀ t, z < t → op q' (t + by') = op q t
  | 0, ht => by omega
  | t + 1, ht => by
    rw [show t + 1 + by' = t + by' + 1 by omega]
    by_cases e : t = z
    · subst e; simp [op, h, hz]
    · simp only [op, h, op_shift h hz t (by omega)]
theorem cl_shift (h : ∀ k, q' (k + by') = q k) {z : Nat} (hz : q z = true) : ∀ t, z < t → cl q' (t + by') = cl q t
  | 0, ht => by omega
  | t + 1, ht => by
    rw [show t + 1 + by' = t + by' + 1 by omega]
    by_cases e : t = z
    · subst e; simp [cl, h, hz]
    · simp only [cl, h, cl_shift h hz t (by omega)]
theorem op_le (h : ∀ k, q' (k + by') = q k) : ∀ t, op q t ≤ op q' (t + by')
  | 0 => Nat.zero_le _
  | t + 1 => by
    rw [show t + 1 + by' = t + by' + 1 by omega]
    have := op_le h t
    simp only [op, h]
    split <;> omega
/-- no line is open -/
theorem op_none {q : Nat → Bool} (h : ∀ k, q k = false) : ∀ t, op q t = 0
  | 0 => rfl
  | t + 1 => by simp [op, h]
theorem fl_never {q : Nat → Bool} (h : ∀ t, op q t < a) : ∀ t, fl q a g t = false
  | 0 => fl_0 (by have := h 0; simp [op] at this; omega)
  | t + 1 => by
    have := h (t + 1)
    have k : ¬ a ≤ op q (t + 1) := by omega
    rw [fl_s, fl_never h t]
    simp only [ev, k, if_false]
    split <;> rfl
/-- the flags of a row and of the row turned by some lines -/
theorem fl_turn (ha : 1 ≤ a) (hm : 1 ≤ m) (h : ∀ k, q (k + m) = q k) (h' : ∀ k, q' (k + m) = q' k) (hb : by' ≤ m) (hq : ∀ k, q' (k + by') = q k) (hz : ∃ z, q z = false) :
    ∀ t, 2 * m - 1 ≤ t → fl q' a g (t + by') = fl q a g t := by
  obtain ⟨z0, hz0⟩ := hz
  have hz : q (z0 % m) = false := by rw [per_mod h]; exact hz0
  have hzm : z0 % m < m := Nat.mod_lt _ hm
  by_cases ho : ∃ o, q o = true
  · obtain ⟨o0, ho0⟩ := ho
    have ho : q (o0 % m) = true := by rw [per_mod h]; exact ho0
    have hom : o0 % m < m := Nat.mod_lt _ hm
    have evT : ∀ t, m ≤ t → ev q' a g (t + by') = ev q a g t := fun t ht => by
      simp only [ev, op_shift hq hz t (by omega), cl_shift hq ho t (by omega)]
    have evP : ∀ t, m ≤ t → ev q a g (t + m) = ev q a g t := fun t ht => by
      simp only [ev, op_shift h hz t (by omega), cl_shift h ho t (by omega)]
    by_cases c : ∃ s, m ≤ s ∧ s < 2 * m ∧ ev q a g s ≠ none
    · obtain ⟨s, h1, h2, h3⟩ := c
      have base : fl q' a g (s + by') = fl q a g s := by
        cases s with
        | zero => omega
        | succ s =>
          rw [show s + 1 + by' = s + by' + 1 by omega, fl_s, fl_s, show s + by' + 1 = s + 1 + by' by omega, evT (s + 1) h1]
          cases e : ev q a g (s + 1) with
          | none => exact absurd e h3
          | some _ => rfl
      have key : ∀ d, fl q' a g (s + d + by') = fl q a g (s + d) := by
        intro d
        induction d with
        | zero => exact base
        | succ d ih =>
          rw [show s + (d + 1) + by' = s + d + by' + 1 by omega, show s + (d + 1) = s + d + 1 by omega, fl_s, fl_s, ih, show s + d + by' + 1 = s + d + 1 + by' by omega, evT _ (by omega)]
      intro t ht
      have := key (t - s)
      rw [show s + (t - s) = t by omega] at this
      exact this
    · have none_at : ∀ t, m ≤ t → ev q a g t = none := by
        intro t
        induction t using Nat.strongRecOn with
        | ind t ih =>
          intro ht
          by_cases k : t < 2 * m
          · by_cases e : ev q a g t = none
            · exact e
            · exact absurd ⟨t, ht, k, e⟩ c
          · have := evP (t - m) (by omega)
            rw [show t - m + m = t by omega, ih (t - m) (by omega) (by omega)] at this
            exact this
      have no : ∀ t, m ≤ t → op q t < a := fun t ht => by
        have := none_at t ht
        unfold ev at this
        split at this
        · cases this
        · omega
      have n1 : ∀ t, op q t < a := fun t => by
        have := op_le h t
        have := no (t + m) (by omega)
        omega
      have n2 : ∀ t, op q' t < a := fun t => by
        have e1 := op_le h' t
        have e2 := op_le h' (t + m)
        have := op_shift hq hz (t + m + m - by') (by omega)
        rw [show t + m + m - by' + by' = t + m + m by omega] at this
        have := n1 (t + m + m - by')
        omega
      intro t _
      rw [fl_never n1, fl_never n2]
  · have hn : ∀ k, q k = false := fun k => by
      cases e : q k
      · rfl
      · exact absurd ⟨k, e⟩ ho
    have hn' : ∀ k, q' k = false := fun k => by
      have e1 := h' k
      have := hq (k + m - by')
      rw [show k + m - by' + by' = k + m by omega, hn, e1] at this
      exact this
    intro t _
    rw [fl_never (q := q) fun t => by rw [op_none hn]; omega, fl_never (q := q') fun t => by rw [op_none hn']; omega]
/-- all lines open: no note ends -/
theorem no_note (ho : ∀ k, q k = true) (hg : 1 ≤ g) {b e : Nat} : ¬ Note (fl q a g) b e := by
  intro n
  have mono : ∀ t, fl q a g t = true → fl q a g (t + 1) = true := fun t ht => by
    rw [fl_s, ht]
    unfold ev
    rw [cl_all ho]
    split
    · rfl
    · have : ¬ g ≤ 0 := by omega
      simp [cg, this]
  have h1 := n.one (e - 1) (by have := n.lt; omega) (by have := n.lt; omega)
  have h2 := mono _ h1
  rw [show e - 1 + 1 = e by have := n.lt; omega, n.e0] at h2
  cases h2
end
/-- notes under a shift -/
theorem note_shift {f f' : Nat → Bool} {s d b e : Nat} (h : ∀ t, s ≤ t → f' (t + d) = f t) (hb : s + 1 ≤ b) : Note f' (b + d) (e + d) ↔ Note f b e := by
  constructor
  · intro n
    refine ⟨by have := n.lt; omega, by omega, ?_, fun t h1 h2 => ?_, ?_⟩
    · rw [← h (b - 1) (by omega), show b - 1 + d = b + d - 1 by omega]; exact n.z
    · rw [← h t (by omega)]; exact n.one _ (by omega) (by omega)
    · rw [← h e (by have := n.lt; omega)]; exact n.e0
  · intro n
    refine ⟨by have := n.lt; omega, by omega, ?_, fun t h1 h2 => ?_, ?_⟩
    · rw [show b + d - 1 = b - 1 + d by omega, h (b - 1) (by omega)]; exact n.z
    · rw [show t = t - d + d by omega, h (t - d) (by omega)]; exact n.one _ (by omega) (by omega)
    · rw [h e (by have := n.lt; omega)]; exact n.e0
/-- a note ends within a period -/
theorem note_len {f : Nat → Bool} {s m b e : Nat} (hm : 1 ≤ m) (h : ∀ t, s ≤ t → f (t + m) = f t) (hb : s + 1 ≤ b) (n : Note f b e) : e < b + m := by
  by_cases k : e < b + m
  · exact k
  · have := h (b - 1) (by omega)
    rw [n.z, n.one (b - 1 + m) (by omega) (by omega)] at this
    cases this
theorem nts_congr {f f' : Nat → Bool} {n : Nat} (h : ∀ t, t ≤ n → f t = f' t) : ∀ t, t ≤ n → nts f t = nts f' t ∧ bg f t = bg f' t
  | 0, _ => ⟨rfl, rfl⟩
  | t + 1, ht => by
    have ih := nts_congr h t (by omega)
    simp only [nts, bg, h t (by omega), h (t + 1) ht, ih.1, ih.2, and_self]
theorem nts_len (f : Nat → Bool) (n : Nat) : (nts f n).length ≤ n := by
  induction n with
  | zero => simp [nts]
  | succ n ih =>
    unfold nts
    split
    · simp; omega
    · omega
/-- the notes of a round, as moments of the first -/
def rnd (f : Nat → Bool) (n m j : Nat) : List (Int × Int) := ((nts f n).filter fun p => decide (j * m ≤ p.1) && decide (p.1 < j * m + m)).map fun p => ((p.1 : Int) - (j * m : Nat), (p.2 : Int) - (j * m : Nat))
theorem mem_rnd {f : Nat → Bool} (h0 : f 0 = false) {n m j : Nat} {x : Int × Int} : x ∈ rnd f n m j ↔ ∃ b e, Note f b e ∧ e ≤ n ∧ j * m ≤ b ∧ b < j * m + m ∧ x = ((b : Int) - (j * m : Nat), (e : Int) - (j * m : Nat)) := by
  unfold rnd
  rw [List.mem_map]
  constructor
  · rintro ⟨⟨b, e⟩, h, rfl⟩
    rw [List.mem_filter, mem_nts h0] at h
    have := h.2
    simp only [Bool.and_eq_true, decide_eq_true_eq] at this
    exact ⟨b, e, h.1.1, h.1.2, this.1, this.2, rfl⟩
  · rintro ⟨b, e, h1, h2, h3, h4, rfl⟩
    refine ⟨(b, e), ?_, rfl⟩
    rw [List.mem_filter, mem_nts h0]
    exact ⟨⟨h1, h2⟩, by simp [h3, h4]⟩
theorem sorted_rnd {f : Nat → Bool} (h0 : f 0 = false) (n m j : Nat) : (rnd f n m j).Pairwise fun p q => p.1 < q.1 := by
  unfold rnd
  rw [List.pairwise_map]
  exact ((sorted_nts h0 n).filter _).imp fun {a b} h => by dsimp only; omega
/-- what holds of the flags of a row read round and round -/
def Per (f : Nat → Bool) (m : Nat) : Prop := (∀ b e, ¬ Note f b e) ∨ ∀ t, 2 * m - 1 ≤ t → f (t + m) = f t
theorem per_mul' {f : Nat → Bool} {m : Nat} (h : ∀ t, 2 * m - 1 ≤ t → f (t + m) = f t) (i t : Nat) (ht : 2 * m - 1 ≤ t) : f (t + i * m) = f t := by
  induction i with
  | zero => simp
  | succ i ih => rw [Nat.succ_mul, ← Nat.add_assoc, h _ (by omega), ih]
theorem rnd_eq {f : Nat → Bool} (h0 : f 0 = false) {m : Nat} (hm : 1 ≤ m) (h : Per f m) {n n' j : Nat} (hj : 2 ≤ j) (hn : (j + 2) * m ≤ n) (hn' : 4 * m ≤ n') : rnd f n m j = rnd f n' m 2 := by
  refine ext_sorted (sorted_rnd h0 n m j) (sorted_rnd h0 n' m 2) fun x => ?_
  rw [mem_rnd h0, mem_rnd h0]
  rcases h with h | h
  · constructor
    · rintro ⟨b, e, q, _⟩; exact absurd q (h b e)
    · rintro ⟨b, e, q, _⟩; exact absurd q (h b e)
  · obtain ⟨i, rfl⟩ : ∃ i, j = 2 + i := ⟨j - 2, by omega⟩
    have hs := per_mul' h i
    have e1 : (2 + i) * m = 2 * m + i * m := Nat.add_mul _ _ _
    have e2 : (2 + i + 2) * m = 2 * m + i * m + 2 * m := by rw [Nat.add_mul, e1]
    rw [e2] at hn
    rw [e1]
    constructor
    · rintro ⟨b, e, q, k1, k2, k3, rfl⟩
      have ql := q.lt
      have q' : Note f (b - i * m + i * m) (e - i * m + i * m) := by rw [show b - i * m + i * m = b by omega, show e - i * m + i * m = e by omega]; exact q
      have q' := (note_shift (s := 2 * m - 1) hs (by omega)).mp q'
      have := note_len hm h (by omega) q'
      exact ⟨b - i * m, e - i * m, q', by omega, by omega, by omega, by congr 1 <;> omega⟩
    · rintro ⟨b, e, q, k1, k2, k3, rfl⟩
      have ql := q.lt
      have := note_len hm h (by omega) q
      exact ⟨b + i * m, e + i * m, (note_shift (s := 2 * m - 1) hs (by omega)).mpr q, by omega, by omega, by omega, by congr 1 <;> omega⟩
def leP (a b : Int × Int) : Bool := decide (a.1 < b.1) || (decide (a.1 = b.1) && decide (a.2 ≤ b.2))
/-- the sorted turned notes are those of the turned row -/
theorem rnd_turn {f f' : Nat → Bool} (h0 : f 0 = false) (h0' : f' 0 = false) {m d : Nat} (hm : 1 ≤ m) (hd : d < m) (h : Per f m) (h' : Per f' m) (hq : (∀ b e, ¬ Note f b e) ∧ (∀ b e, ¬ Note f' b e) ∨ ∀ t, 2 * m - 1 ≤ t → f' (t + d) = f t)
    {n n' : Nat} (hn : 4 * m ≤ n) (hn' : 4 * m ≤ n') : (((rnd f n m 2).map fun p => ((p.1 + (d : Int)) % (m : Int), p.2 - p.1)).mergeSort leP).map (fun p => (p.1, p.1 + p.2)) = rnd f' n' m 2 := by
  have lt : ∀ a b c : Int × Int, leP a b = true → leP b c = true → leP a c = true := by
    intro a b c h1 h2
    simp only [leP, Bool.or_eq_true, Bool.and_eq_true, decide_eq_true_eq] at *
    omega
  have lo : ∀ a b : Int × Int, (leP a b || leP b a) = true := by
    intro a b
    simp only [leP, Bool.or_eq_true, Bool.and_eq_true, decide_eq_true_eq] at *
    omega
  have srt := List.pairwise_mergeSort lt lo ((rnd f n m 2).map fun p => ((p.1 + (d : Int)) % (m : Int), p.2 - p.1))
  have prm := List.mergeSort_perm ((rnd f n m 2).map fun p => ((p.1 + (d : Int)) % (m : Int), p.2 - p.1)) leP
  -- the same as the sorted list by members
  have goal : (((rnd f n m 2).map fun p => ((p.1 + (d : Int)) % (m : Int), p.2 - p.1)).mergeSort leP) = (rnd f' n' m 2).map fun p => (p.1, p.2 - p.1) := by
    have sr : ((rnd f' n' m 2).map fun p => (p.1, p.2 - p.1)).Pairwise fun p q => p.1 < q.1 := by
      rw [List.pairwise_map]
      exact (sorted_rnd h0' n' m 2).imp fun {a b} h => by dsimp only; omega
    have nd1 : ((rnd f n m 2).map fun p => ((p.1 + (d : Int)) % (m : Int), p.2 - p.1)).Nodup := by
      rw [List.nodup_iff_pairwise_ne, List.pairwise_map]
      refine (List.Pairwise.and_mem.mp (sorted_rnd h0 n m 2)).imp fun {a b} ⟨ha, hb, h⟩ e => ?_
      obtain ⟨b1, e1, _, _, k1, k2, rfl⟩ := (mem_rnd h0).mp ha
      obtain ⟨b2, e2, _, _, k3, k4, rfl⟩ := (mem_rnd h0).mp hb
      dsimp only at h e
      have e := congrArg Prod.fst e
      dsimp only at e
      have w1 : ((b1 : Int) - (2 * m : Nat) + d) % m = (b1 : Int) - (2 * m : Nat) + d - (if (b1 : Int) - (2 * m : Nat) + d < m then 0 else (m : Int)) := by
        split
        · rw [Int.emod_eq_of_lt (by omega) (by omega)]; omega
        · rw [← Int.sub_emod_right, Int.emod_eq_of_lt (by omega) (by omega)]
      have w2 : ((b2 : Int) - (2 * m : Nat) + d) % m = (b2 : Int) - (2 * m : Nat) + d - (if (b2 : Int) - (2 * m : Nat) + d < m then 0 else (m : Int)) := by
        split
        · rw [Int.emod_eq_of_lt (by omega) (by omega)]; omega
        · rw [← Int.sub_emod_right, Int.emod_eq_of_lt (by omega) (by omega)]
      rw [w1, w2] at e
      split at e <;> split at e <;> omega
    refine List.Perm.eq_of_pairwise (le := fun a b => leP a b = true) (fun a b _ _ h1 h2 => ?_) srt (sr.imp fun {a b} h => by simp [leP, h]) ?_
    · simp only [leP, Bool.or_eq_true, Bool.and_eq_true, decide_eq_true_eq] at h1 h2
      exact Prod.ext (by omega) (by omega)
    · refine prm.trans ((List.perm_ext_iff_of_nodup nd1 (sr.imp fun {a b} h e => by rw [e] at h; omega)).mpr fun x => ?_)
      rw [List.mem_map, List.mem_map]
      rcases hq with ⟨n1, n2⟩ | hq
      · constructor
        · rintro ⟨y, hy, _⟩
          obtain ⟨b, e, q, _⟩ := (mem_rnd h0).mp hy
          exact absurd q (n1 b e)
        · rintro ⟨y, hy, _⟩
          obtain ⟨b, e, q, _⟩ := (mem_rnd h0').mp hy
          exact absurd q (n2 b e)
      · constructor
        · rintro ⟨y, hy, rfl⟩
          obtain ⟨b, e, q, k1, k2, k3, rfl⟩ := (mem_rnd h0).mp hy
          have ql := q.lt
          have q2 := (note_shift (s := 2 * m - 1) hq (by omega)).mpr q
          rcases h' with h' | h'
          · exact absurd q2 (h' _ _)
          · have len := note_len hm h' (by omega) q2
            by_cases w : b - 2 * m + d < m
            · refine ⟨((b + d : Nat) - (2 * m : Nat), (e + d : Nat) - (2 * m : Nat)), (mem_rnd h0').mpr ⟨_, _, q2, by omega, by omega, by omega, rfl⟩, ?_⟩
              dsimp only
              rw [Int.emod_eq_of_lt (by omega) (by omega)]
              congr 1 <;> omega
            · have q3 : Note f' (b + d - m + m) (e + d - m + m) := by rw [show b + d - m + m = b + d by omega, show e + d - m + m = e + d by omega]; exact q2
              have q3 := (note_shift (s := 2 * m - 1) h' (by omega)).mp q3
              refine ⟨((b + d - m : Nat) - (2 * m : Nat), (e + d - m : Nat) - (2 * m : Nat)), (mem_rnd h0').mpr ⟨_, _, q3, by omega, by omega, by omega, rfl⟩, ?_⟩
              dsimp only
              rw [← Int.sub_emod_right, Int.emod_eq_of_lt (by omega) (by omega)]
              congr 1 <;> omega
        · rintro ⟨y, hy, rfl⟩
          obtain ⟨b, e, q, k1, k2, k3, rfl⟩ := (mem_rnd h0').mp hy
          have ql := q.lt
          have fin : ∀ b e : Nat, Note f b e → 2 * m ≤ b → b < 3 * m → e ≤ n := fun b e q l1 l2 => by
            rcases h with h | h
            · exact absurd q (h _ _)
            · have := note_len hm h (by omega) q; omega
          by_cases w : 2 * m + d ≤ b
          · have q2 : Note f' (b - d + d) (e - d + d) := by rw [show b - d + d = b by omega, show e - d + d = e by omega]; exact q
            have q2 := (note_shift (s := 2 * m - 1) hq (by omega)).mp q2
            refine ⟨((b - d : Nat) - (2 * m : Nat), (e - d : Nat) - (2 * m : Nat)), (mem_rnd h0).mpr ⟨_, _, q2, fin _ _ q2 (by omega) (by omega), by omega, by omega, rfl⟩, ?_⟩
            dsimp only
            rw [Int.emod_eq_of_lt (by omega) (by omega)]
            congr 1 <;> omega
          · rcases h' with h' | h'
            · exact absurd q (h' _ _)
            · have q1 := (note_shift (s := 2 * m - 1) h' (by omega)).mpr q
              have q2 : Note f' (b + m - d + d) (e + m - d + d) := by rw [show b + m - d + d = b + m by omega, show e + m - d + d = e + m by omega]; exact q1
              have q2 := (note_shift (s := 2 * m - 1) hq (by omega)).mp q2
              refine ⟨((b + m - d : Nat) - (2 * m : Nat), (e + m - d : Nat) - (2 * m : Nat)), (mem_rnd h0).mpr ⟨_, _, q2, fin _ _ q2 (by omega) (by omega), by omega, by omega, rfl⟩, ?_⟩
              dsimp only
              rw [← Int.sub_emod_right, Int.emod_eq_of_lt (by omega) (by omega)]
              congr 1 <;> omega
  rw [goal, List.map_map]
  conv => rhs; rw [← List.map_id (rnd f' n' m 2)]
  refine List.map_congr_left fun p _ => ?_
  show (p.1, p.1 + (p.2 - p.1)) = id p
  rw [show p.1 + (p.2 - p.1) = p.2 by omega]
  rfl
end Vo

set_option Elab.async false
set_option linter.all false
set_option maxRecDepth 100000
/-! WD: rules whose conditions a walk proves by itself (walk_at "go"). -/
namespace Ru
open PySem PySem.Spec PyProof.Rows L2 VS
theorem c_mod {i j : Int} (h : 0 < j) : binD .mod (.int i) (.int j) = some (.int (i % j), .dp) := by rw [bn_mod, if_pos h]
theorem c_fdiv {i j : Int} (h : 0 < j) (h2 : j < 1073741824) : binD .fdiv (.int i) (.int j) = some (.int (i / j), .dp) := by rw [bn_fdiv, if_pos ⟨h, h2⟩]
theorem c_mul1 {i j : Int} (h : -18446744073709551616 < i) (h2 : i < 18446744073709551616) : binD .mul (.int i) (.int j) = some (.int (i * j), .dp) := by
  rw [bn_mul, small_eq]
  simp [h, h2]
theorem c_mul2 {i j : Int} (h : -18446744073709551616 < j) (h2 : j < 18446744073709551616) : binD .mul (.int i) (.int j) = some (.int (i * j), .dp) := by
  rw [bn_mul, small_eq, small_eq]
  simp [h, h2]
theorem c_addl {x y : List D} (h : x.length + y.length ≤ 16777216) : binD .add (.lst x) (.lst y) = some (lstM (x ++ y)) := by rw [bn_addl, if_pos h]
theorem c_addi {x y : List Int} (h : x.length + y.length ≤ 16777216) : binD .add (.lst (x.map .int)) (.lst (y.map .int)) = some (.lst ((x ++ y).map .int), .dp) := by
  rw [c_addl (by simpa using h), lstM, ← List.map_append, iml_int]; rfl
theorem c_addp {x y : List (Int × Int)} (h : x.length + y.length ≤ 16777216) : binD .add (.lst (x.map VS.prD)) (.lst (y.map VS.prD)) = some (.lst ((x ++ y).map VS.prD), .dp) := by
  rw [c_addl (by simpa using h), lstM, ← List.map_append, iml_pr]; rfl
theorem c_mull {xs : List D} {k : Int} (h : -9223372036854775808 ≤ k) (h2 : k < 9223372036854775808) (h3 : xs.length * k.toNat ≤ 16777216) : binD .mul (.lst xs) (.int k) = some (lstM (List.replicate k.toNat xs).flatten) := by
  rw [bn_mull, if_pos ⟨h, h2, h3⟩]
theorem c_mul0 {v : Int} {k : Int} (h : -9223372036854775808 ≤ k) (h2 : k ≤ 16777216) : binD .mul (.lst [.int v]) (.int k) = some (.lst ((List.replicate k.toNat v).map .int), .dp) := by
  rw [c_mull h (by omega) (by simp; omega), lstM, rep_one, List.map_replicate, iml_repi]; rfl
theorem c_rng1 {j : Int} (h : -4611686018427387904 ≤ j) (h2 : j < 4611686018427387904) : rngD [.int j] = some (0, j.toNat) := by rw [rng1, if_pos ⟨h, h2⟩]
theorem c_rng2 {i j : Int} (h : -4611686018427387904 ≤ i) (h2 : i < 4611686018427387904) (h3 : -4611686018427387904 ≤ j) (h4 : j < 4611686018427387904) : rngD [.int i, .int j] = some (i, (j - i).toNat) := by rw [rng2, if_pos ⟨h, h2, h3, h4⟩]
theorem c_app_dp {i : Nat} {x : D × Md} {xs : List D} {ρ : En} (h : xs.length < 16777216) : appD i x (some (.lst xs, .dp)) ρ = .nx (ρ.set i (some (.lst (xs ++ [x.1]), if x.2 = .dp then .dp else .rt))) := by rw [appD_dp, if_pos h]
theorem c_app_rt {i : Nat} {x : D × Md} {xs : List D} {ρ : En} (h : xs.length < 16777216) : appD i x (some (.lst xs, .rt)) ρ = .nx (ρ.set i (some (.lst (xs ++ [x.1]), .rt))) := by rw [appD_rt, if_pos h]
-- typed lists
theorem app_one {α : Type} {f : α → D} {l : List α} {x : α} : l.map f ++ [f x] = (l ++ [x]).map f := by simp
theorem app_pr {l : List (Int × Int)} {a b : Int} : l.map VS.prD ++ [.tup [.int a, .int b]] = (l ++ [(a, b)]).map VS.prD := by simp [VS.prD]
theorem cons_int {x : Int} {l : List Int} : D.int x :: l.map D.int = (x :: l).map D.int := rfl
theorem app_int1 {x : Int} {l : List Int} : l.map D.int ++ [D.int x] = (l ++ [x]).map D.int := by simp
theorem app_int2 {x y : Int} {l : List Int} : l.map D.int ++ [D.int x, D.int y] = (l ++ [x, y]).map D.int := by simp
theorem app_int3 {x y z : Int} {l : List Int} : l.map D.int ++ [D.int x, D.int y, D.int z] = (l ++ [x, y, z]).map D.int := by simp
theorem app_int4 {x y z u : Int} {l : List Int} : l.map D.int ++ [D.int x, D.int y, D.int z, D.int u] = (l ++ [x, y, z, u]).map D.int := by simp
theorem app_intm {x y : List Int} : x.map D.int ++ y.map D.int = (x ++ y).map D.int := by simp
theorem app_prm {x y : List (Int × Int)} : x.map VS.prD ++ y.map VS.prD = (x ++ y).map VS.prD := by simp
theorem prD_eq {a b : Int} : VS.prD (a, b) = .tup [.int a, .int b] := rfl
theorem map1_c {x : D × Md} {xs : List (D × Md)} : List.map (fun y => y.1) (x :: xs) = x.1 :: List.map (fun y => y.1) xs := rfl
theorem map1_n : List.map (fun y : D × Md => y.1) [] = [] := rfl
theorem all1_c {x : D × Md} {xs : List (D × Md)} : ((x :: xs).all fun x => decide (x.2 = .dp)) = (decide (x.2 = .dp) && xs.all fun x => decide (x.2 = .dp)) := rfl
theorem lstOf_cc {x : D × Md} {xs : List (D × Md)} : lstOf (x :: xs) = (.lst (List.map (fun y => y.1) (x :: xs)), if ((x :: xs).all fun x => decide (x.2 = .dp)) = true then .dp else .rt) := lstOf_c
-- reading
theorem c_at {α : Type} {f : α → D} {ns : List α} {i : Int} (h0 : 0 ≤ i) (h1 : i < ns.length) : atI (ns.map f) i = some (f (ns[i.toNat]'(by omega))) := by
  obtain ⟨k, rfl⟩ := Int.eq_ofNat_of_zero_le h0
  rw [atI_get?]
  have : k < ns.length := by omega
  simp [this]
theorem c_atk {α : Type} {f : α → D} {ns : List α} {k : Nat} (h1 : k < ns.length) : atI (ns.map f) (k : Int) = some (f ns[k]) := by
  rw [atI_get?]
  simp [h1]
theorem c_at0 {α : Type} {f : α → D} {x : α} {ns : List α} : atI ((x :: ns).map f) 0 = some (f x) := by
  have := atI_get? (xs := (x :: ns).map f) (j := 0)
  simpa using this
theorem ixN_nat {m j : Nat} (h : j < m) : ixN m (j : Int) = some j := by
  have h1 : ¬ (j : Int) < 0 := by omega
  simp [ixN, h1, h]
theorem ixN_some {n : Nat} {z : Int} (h0 : 0 ≤ z) (h1 : z < n)   : ixN n z = some z.toNat := by
  obtain ⟨k, rfl⟩ := Int.eq_ofNat_of_zero_le h0
  exact ixN_nat (j := k) (by omega)
theorem c_pop {α : Type} {f : α → D} {i : Nat} {k : Int} {l : List α} {ρ : En} (h0 : 0 ≤ k) (h1 : k < l.length) (hs : l.length < 1000000) : popS i (some (.lst (l.map f), .dp)) (some k) ρ = .ok (itemM (f (l[k.toNat]'(by omega)))) (ρ.set i (some (.lst ((l.eraseIdx k.toNat).map f), if imm (f (l[k.toNat]'(by omega))) = true then .dp else .rt))) := by
  obtain ⟨j, rfl⟩ := Int.eq_ofNat_of_zero_le h0
  have hj : j < l.length := by omega
  rw [pop_at_dp (j := j) (xs := l.map f) (d := f l[j]) rfl (by simp [hj]) (by simp; omega)]
  have er : (l.map f).eraseIdx j = (l.eraseIdx j).map f := by
    clear hs hj h1 h0
    induction l generalizing j with
    | nil => rfl
    | cons a r ih => cases j with
      | zero => rfl
      | succ j => simp [ih]
  rw [er]
  rfl
theorem c_cuthi {α : Type} {f : α → D} {l : List α} {k : Int} (h : 0 ≤ k) : VS.cutD (l.map f) none (some k) = (l.take k.toNat).map f := by
  obtain ⟨j, rfl⟩ := Int.eq_ofNat_of_zero_le h
  rw [cut_hi, List.map_take]; rfl
theorem c_cutlo {α : Type} {f : α → D} {l : List α} {k : Int} (h : 0 ≤ k) : VS.cutD (l.map f) (some k) none = (l.drop k.toNat).map f := by
  obtain ⟨j, rfl⟩ := Int.eq_ofNat_of_zero_le h
  rw [cut_lo, List.map_drop]; rfl
-- tests
theorem d_lt_t {a b : Int} (h : a < b) : decide (a < b) = true := decide_eq_true h
theorem d_lt_f {a b : Int} (h : b ≤ a) : decide (a < b) = false := decide_eq_false (by omega)
theorem d_le_t {a b : Int} (h : a ≤ b) : decide (a ≤ b) = true := decide_eq_true h
theorem d_le_f {a b : Int} (h : b < a) : decide (a ≤ b) = false := decide_eq_false (by omega)
theorem d_eq_t {a b : Int} (h : a = b) : decide (a = b) = true := decide_eq_true h
theorem d_eq_f {a b : Int} (h : ¬ a = b) : decide (a = b) = false := decide_eq_false h
theorem d_ne_t {a b : Int} (h : ¬ a = b) : decide (a ≠ b) = true := decide_eq_true h
theorem d_ne_f {a b : Int} (h : a = b) : decide (a ≠ b) = false := decide_eq_false (fun z => z h)
theorem i_lt_t {α : Type} {a b : Int} [Decidable (a < b)] {x y : α} (h : a < b) : (if a < b then x else y) = x := if_pos h
theorem i_lt_f {α : Type} {a b : Int} [Decidable (a < b)] {x y : α} (h : b ≤ a) : (if a < b then x else y) = y := if_neg (by omega)
theorem i_le_t {α : Type} {a b : Int} [Decidable (a ≤ b)] {x y : α} (h : a ≤ b) : (if a ≤ b then x else y) = x := if_pos h
theorem i_le_f {α : Type} {a b : Int} [Decidable (a ≤ b)] {x y : α} (h : b < a) : (if a ≤ b then x else y) = y := if_neg (by omega)
theorem i_eq_t {α : Type} {a b : Int} [Decidable (a = b)] {x y : α} (h : a = b) : (if a = b then x else y) = x := if_pos h
theorem i_eq_f {α : Type} {a b : Int} [Decidable (a = b)] {x y : α} (h : ¬ a = b) : (if a = b then x else y) = y := if_neg h
theorem s_eq_f {x y : Str} (h : ¬ x = y) : decide (x = y) = false := decide_eq_false h
theorem s_eq_t {x : Str} : decide (x = x) = true := decide_eq_true rfl
theorem erp {α : Type} {l : List α} {j : Nat} (h : j < l.length) : (l[j] :: l.eraseIdx j).Perm l := by
  induction l generalizing j with
  | nil => simp at h
  | cons a r ih =>
    cases j with
    | zero => exact .refl _
    | succ j =>
      have := ih (j := j) (by simpa using h)
      exact (List.Perm.swap _ _ _).trans (.cons _ this)
/-- over a range -/
theorem cgo_rng {f : D → En → R (Option (D × Md))} {t : Tok f} {lo : Int} {n : Nat} {ρ : En} (h : Nat → D) (H : ∀ k : Nat, k < n → f (.int (lo + (k : Int))) ρ = .ok (some (h k, .dp)) ρ) (hl : n ≤ 16777216) : cgo f t (rngL lo n) [] ρ = .ok (((List.range n).map h).map fun d => (d, .dp)) ρ := by
  unfold rngL
  rw [cgo_all h (fun k hk => H k (List.mem_range.mp hk)) (by simpa using hl), List.map_map]
  rfl
theorem cgo_rngf {f : D → En → R (Option (D × Md))} {t : Tok f} {lo : Int} {n : Nat} {ρ : En} (p : Nat → Bool) (h : Nat → D) (H : ∀ k : Nat, k < n → f (.int (lo + (k : Int))) ρ = .ok (if p k then some (h k, .dp) else none) ρ) (hl : n ≤ 16777216) : cgo f t (rngL lo n) [] ρ = .ok ((((List.range n).filter p).map h).map fun d => (d, .dp)) ρ := by
  unfold rngL
  rw [cgo_filter p h (fun k hk => H k (List.mem_range.mp hk)) (by simpa using hl), List.map_map]
  rfl
theorem n_lt_t {α : Type} {a b : Nat} [Decidable (a < b)] {x y : α} (h : a < b) : (if a < b then x else y) = x := if_pos h
theorem n_lt_f {α : Type} {a b : Nat} [Decidable (a < b)] {x y : α} (h : b ≤ a) : (if a < b then x else y) = y := if_neg (by omega)
theorem n_le_t {α : Type} {a b : Nat} [Decidable (a ≤ b)] {x y : α} (h : a ≤ b) : (if a ≤ b then x else y) = x := if_pos h
theorem n_le_f {α : Type} {a b : Nat} [Decidable (a ≤ b)] {x y : α} (h : b < a) : (if a ≤ b then x else y) = y := if_neg (by omega)
theorem imm_prp (x : Int × Int) : imm (VS.prD x) = true := by simp [VS.prD, imm, immL]
-- what may be compared
def shk : Nat → D → Bool
  | _, .non => true
  | _, .bl _ => true
  | _, .int _ => true
  | _, .str x => PyData.strOk x
  | k + 1, .lst xs => xs.all (shk k)
  | k + 1, .tup xs => xs.all (shk k)
  | _, _ => false
theorem shk_shd : ∀ (k : Nat) (d : D), shk k d = true → Shd k d
  | k, .non, _ => shd_non k
  | k, .bl _, _ => shd_bl k _
  | k, .int _, _ => shd_int k _
  | k, .str _, h => shd_str k (by cases k <;> exact h)
  | k + 1, .lst xs, h => shd_lst fun x hx => shk_shd k x (List.all_eq_true.mp (show xs.all (shk k) = true from h) x hx)
  | k + 1, .tup xs, h => shd_tup fun x hx => shk_shd k x (List.all_eq_true.mp (show xs.all (shk k) = true from h) x hx)
  | 0, .lst _, h => by cases h
  | 0, .tup _, h => by cases h
  | 0, .ins _ _, h => by cases h
  | 0, .dK _, h => by cases h
  | 0, .dT _, h => by cases h
  | k + 1, .ins _ _, h => by cases h
  | k + 1, .dK _, h => by cases h
  | k + 1, .dT _, h => by cases h
theorem sk_non {k : Nat} : shk k .non = true := by cases k <;> rfl
theorem sk_bl {k : Nat} {b : Bool} : shk k (.bl b) = true := by cases k <;> rfl
theorem sk_int {k : Nat} {b : Int} : shk k (.int b) = true := by cases k <;> rfl
theorem sk_lst {k : Nat} {xs : List D} : shk (k + 1) (.lst xs) = xs.all (shk k) := rfl
theorem sk_tup {k : Nat} {xs : List D} : shk (k + 1) (.tup xs) = xs.all (shk k) := rfl
theorem sk_ints {k : Nat} {l : List Int} : (l.map D.int).all (shk k) = true := by
  rw [List.all_map, List.all_eq_true]; intro x _; exact sk_int
theorem sk_prs {k : Nat} {l : List (Int × Int)} : (l.map VS.prD).all (shk (k + 1)) = true := by
  rw [List.all_map, List.all_eq_true]; intro x _; simp [VS.prD, sk_tup, sk_int]
theorem shk_mono : ∀ {k : Nat} {d : D}, shk k d = true → shk (k + 1) d = true
  | k, .non, _ => sk_non
  | k, .bl _, _ => sk_bl
  | k, .int _, _ => sk_int
  | 0, .str _, h => h
  | k + 1, .str _, h => h
  | k + 1, .lst xs, h => by
    rw [sk_lst] at h ⊢
    exact List.all_eq_true.mpr fun x hx => shk_mono (List.all_eq_true.mp h x hx)
  | k + 1, .tup xs, h => by
    rw [sk_tup] at h ⊢
    exact List.all_eq_true.mpr fun x hx => shk_mono (List.all_eq_true.mp h x hx)
  | 0, .lst _, h => by cases h
  | 0, .tup _, h => by cases h
  | 0, .ins _ _, h => by cases h
  | 0, .dK _, h => by cases h
  | 0, .dT _, h => by cases h
  | k + 1, .ins _ _, h => by cases h
  | k + 1, .dK _, h => by cases h
  | k + 1, .dT _, h => by cases h
theorem c_eq {d e : D} (h : shk 9 d = true) (h' : shk 9 e = true) : cmpD .eq d e = some (eqD d e) := by
  rw [cmp_eq, shp_of ((shk_shd _ _ h).mono (by omega)), shp_of ((shk_shd _ _ h').mono (by omega))]; rfl
theorem c_ne {d e : D} (h : shk 9 d = true) (h' : shk 9 e = true) : cmpD .ne d e = some (!eqD d e) := by
  rw [cmp_ne, shp_of ((shk_shd _ _ h).mono (by omega)), shp_of ((shk_shd _ _ h').mono (by omega))]; rfl
theorem c_in {d : D} {xs : List D} (h : shk 9 d = true) (h' : shk 9 (.lst xs) = true) : cmpD .inn d (.lst xs) = some (xs.any fun z => eqD z d) := by
  show (if shp d && shp (.lst xs) then _ else _) = _
  rw [shp_of ((shk_shd _ _ h).mono (by omega)), shp_of ((shk_shd _ _ h').mono (by omega))]; rfl
theorem c_nin {d : D} {xs : List D} (h : shk 9 d = true) (h' : shk 9 (.lst xs) = true) : cmpD .nin d (.lst xs) = some (!(xs.any fun z => eqD z d)) := by
  show Option.map _ (cmpD .inn d (.lst xs)) = _
  rw [c_in h h']; rfl
theorem cm_non {d : D} : (cmpD .eq d .non = if shp d && shp .non then some (eqD d .non) else none) := rfl
theorem k_eq {d e : D} (h : (shk 9 d && shk 9 e) = true) : cmpD .eq d e = some (eqD d e) := c_eq (Bool.and_eq_true_iff.mp h).1 (Bool.and_eq_true_iff.mp h).2
theorem k_ne {d e : D} (h : (shk 9 d && shk 9 e) = true) : cmpD .ne d e = some (!eqD d e) := c_ne (Bool.and_eq_true_iff.mp h).1 (Bool.and_eq_true_iff.mp h).2
theorem k_in {d : D} {xs : List D} (h : (shk 9 d && shk 9 (.lst xs)) = true) : cmpD .inn d (.lst xs) = some (xs.any fun z => eqD z d) := c_in (Bool.and_eq_true_iff.mp h).1 (Bool.and_eq_true_iff.mp h).2
theorem k_nin {d : D} {xs : List D} (h : (shk 9 d && shk 9 (.lst xs)) = true) : cmpD .nin d (.lst xs) = some (!(xs.any fun z => eqD z d)) := c_nin (Bool.and_eq_true_iff.mp h).1 (Bool.and_eq_true_iff.mp h).2
theorem k_same {d : D} (h : shk 9 d = true) : cmpD .eq d d = some true := cmp_eq_same ((shk_shd _ _ h).mono (by omega))
theorem k_nsame {d : D} (h : shk 9 d = true) : cmpD .ne d d = some false := cmp_ne_same ((shk_shd _ _ h).mono (by omega))
-- equal data
theorem eq_ii {i j : Int} : eqD (.int i) (.int j) = decide (i = j) := by simp [eqD, toP, PyData.eqv, BEq.beq]
theorem eq_ss {x y : Str} : eqD (.str x) (.str y) = decide (x = y) := by
  simp only [eqD, toP, PyData.eqv]
  by_cases h : x = y <;> simp [h]
theorem eq_bb {a b : Bool} : eqD (.bl a) (.bl b) = (a == b) := by simp [eqD, toP, PyData.eqv]
theorem eq_nn : eqD .non .non = true := rfl
theorem eq_ll {xs ys : List D} : eqD (.lst xs) (.lst ys) = PyData.eqvAll (toPs xs) (toPs ys) := by simp [eqD, toP, PyData.eqv]
theorem eq_tt {xs ys : List D} : eqD (.tup xs) (.tup ys) = PyData.eqvAll (toPs xs) (toPs ys) := by simp [eqD, toP, PyData.eqv]
theorem eqs_nn : PyData.eqvAll (toPs []) (toPs []) = true := by simp [toPs, PyData.eqvAll]
theorem eqs_cn {x : D} {r : List D} : PyData.eqvAll (toPs (x :: r)) (toPs []) = false := by simp [toPs, PyData.eqvAll]
theorem eqs_nc {x : D} {r : List D} : PyData.eqvAll (toPs []) (toPs (x :: r)) = false := by simp [toPs, PyData.eqvAll]
theorem eqs_cc {x y : D} {r s : List D} : PyData.eqvAll (toPs (x :: r)) (toPs (y :: s)) = (eqD x y && PyData.eqvAll (toPs r) (toPs s)) := by simp [toPs, PyData.eqvAll, eqD]
/-- lists of one kind -/
theorem eqs_map {α : Type} [DecidableEq α] {f : α → D} (h : ∀ a b, eqD (f a) (f b) = decide (a = b)) : ∀ {l m : List α}, PyData.eqvAll (toPs (l.map f)) (toPs (m.map f)) = decide (l = m)
  | [], [] => eqs_nn
  | [], _ :: _ => by rw [List.map_cons, List.map_nil, eqs_nc]; simp
  | _ :: _, [] => by rw [List.map_cons, List.map_nil, eqs_cn]; simp
  | a :: r, b :: s => by rw [List.map_cons, List.map_cons, eqs_cc, h, eqs_map h]; simp
theorem eqD_pr (a b : Int × Int) : eqD (VS.prD a) (VS.prD b) = decide (a = b) := by
  obtain ⟨a1, a2⟩ := a
  obtain ⟨b1, b2⟩ := b
  simp [prD_eq, eq_tt, eqs_cc, eqs_nn, eq_ii]
theorem eqs_ints {l m : List Int} : PyData.eqvAll (toPs (l.map D.int)) (toPs (m.map D.int)) = decide (l = m) := eqs_map fun _ _ => eq_ii
theorem eqs_prs {l m : List (Int × Int)} : PyData.eqvAll (toPs (l.map VS.prD)) (toPs (m.map VS.prD)) = decide (l = m) := eqs_map eqD_pr
/-- unlike kinds -/
theorem eq_ts {xs : List D} {y : Str} : eqD (.tup xs) (.str y) = false := by simp [eqD, toP, PyData.eqv]
theorem eq_tn {xs : List D} : eqD (.tup xs) .non = false := by simp [eqD, toP, PyData.eqv]
theorem eq_nt {xs : List D} : eqD .non (.tup xs) = false := by simp [eqD, toP, PyData.eqv]
theorem eq_ln {xs : List D} : eqD (.lst xs) .non = false := by simp [eqD, toP, PyData.eqv]
theorem eq_in {i : Int} : eqD (.int i) .non = false := by simp [eqD, toP, PyData.eqv]
theorem eq_is {i : Int} {y : Str} : eqD (.int i) (.str y) = false := by simp [eqD, toP, PyData.eqv]
theorem eq_si {i : Int} {y : Str} : eqD (.str y) (.int i) = false := by simp [eqD, toP, PyData.eqv]
theorem eq_tl {xs ys : List D} : eqD (.tup xs) (.lst ys) = false := by simp [eqD, toP, PyData.eqv]
theorem eq_lt {xs ys : List D} : eqD (.lst xs) (.tup ys) = false := by simp [eqD, toP, PyData.eqv]
theorem any_map {α : Type} [DecidableEq α] {f : α → D} (h : ∀ a b, eqD (f a) (f b) = decide (a = b)) {l : List α} {x : α} : ((l.map f).any fun z => eqD z (f x)) = decide (x ∈ l) := by
  rw [Bool.eq_iff_iff, List.any_eq_true, decide_eq_true_eq]
  constructor
  · rintro ⟨z, hz, e⟩
    obtain ⟨a, ha, rfl⟩ := List.mem_map.mp hz
    rw [h, decide_eq_true_eq] at e
    exact e ▸ ha
  · intro hx
    exact ⟨f x, List.mem_map.mpr ⟨x, hx, rfl⟩, by rw [h]; simp⟩
theorem any_int {l : List Int} {x : Int} : ((l.map D.int).any fun z => eqD z (.int x)) = decide (x ∈ l) := any_map (f := D.int) fun _ _ => eq_ii
theorem any_pr {l : List (Int × Int)} {a b : Int} : ((l.map VS.prD).any fun z => eqD z (.tup [.int a, .int b])) = decide ((a, b) ∈ l) := by
  have h := any_map (f := VS.prD) (l := l) (x := (a, b)) eqD_pr
  exact h.trans (decide_eq_decide.mpr Iff.rfl)
theorem any_pr' {l : List (Int × Int)} {p : Int × Int} : ((l.map VS.prD).any fun z => eqD z (VS.prD p)) = decide (p ∈ l) := (any_map (f := VS.prD) eqD_pr).trans (decide_eq_decide.mpr Iff.rfl)
theorem list_map {α : Type} {f : α → D} {l : List α} (h : immL (l.map f) = true) : lstM (l.map f) = (.lst (l.map f), .dp) := by rw [lstM, h]; rfl
theorem bi_maxt4 {a b c d : Int} : biD .max1 [.tup [.int a, .int b, .int c, .int d]] = some (.int (max (max (max a b) c) d), .dp) := by
  have e : ∀ x y : Int, (if x < y then y else x) = max x y := fun x y => by split <;> omega
  show some (D.int (List.foldl _ a [b, c, d]), Md.dp) = _
  simp only [List.foldl_cons, List.foldl_nil, e]
theorem bi_maxl2 {a b : Int} : biD .max1 [.lst [.int a, .int b]] = some (.int (max a b), .dp) := by
  have e : ∀ x y : Int, (if x < y then y else x) = max x y := fun x y => by split <;> omega
  rw [bi_max_2, e]
theorem bi_minl2 {a b : Int} : biD .min1 [.lst [.int a, .int b]] = some (.int (min a b), .dp) := by
  have e : ∀ x y : Int, (if y < x then y else x) = min x y := fun x y => by split <;> omega
  rw [bi_min_2, e]
theorem c_max2 {a b : Int} : biD .max2 [.int a, .int b] = some (.int (max a b), .dp) := by
  have e : ∀ x y : Int, (if y > x then y else x) = max x y := fun x y => by split <;> omega
  rw [bi_max2, e]
theorem c_min2 {a b : Int} : biD .min2 [.int a, .int b] = some (.int (min a b), .dp) := by
  have e : ∀ x y : Int, (if y < x then y else x) = min x y := fun x y => by split <;> omega
  rw [bi_min2, e]
theorem bi_sortI {l : List Int} : biD .sorted [.lst (l.map .int)] = some (.lst ((sortI l).map .int), .dp) := by
  simp only [biD, sortedD, ints_map]
-- comprehensions
/-- a comprehension's turns, each at the frame that it begins with -/
def cgoM {α : Type} {f : D → En → R (Option (D × Md))} (t : Tok f) (v : α → D) (l : List α) (ρ : En) (g : (a : α) → a ∈ l → R (Option (D × Md))) (hg : ∀ a h, g a h = f (v a) ρ) : R (List (D × Md)) := cgo f t (l.map v) [] ρ
theorem cgo_M {α : Type} {f : D → En → R (Option (D × Md))} {t : Tok f} {v : α → D} {l : List α} {ρ : En} : cgo f t (l.map v) [] ρ = cgoM t v l ρ (fun a _ => f (v a) ρ) (fun _ _ => rfl) := rfl
def dpl (xs : List D) : List (D × Md) := xs.map fun d => (d, .dp)
theorem dpl_eq {xs : List D} : (xs.map fun d => (d, Md.dp)) = dpl xs := rfl
theorem dpl_lst {xs : List D} : lstOf (dpl xs) = (.lst xs, .dp) := by
  have := lstOf_dp (l := xs) (h := fun d => d)
  rw [List.map_id'] at this
  exact this
section
variable {α : Type} {f : D → En → R (Option (D × Md))} {t : Tok f} {v : α → D} {l : List α} {ρ : En}
theorem cM_gen {h : α → D} {hg : ∀ a (_ : a ∈ l), R.ok (some (h a, Md.dp)) ρ = f (v a) ρ} (hl : l.length ≤ 16777216) : cgoM t v l ρ (fun a _ => R.ok (some (h a, Md.dp)) ρ) hg = .ok (dpl (l.map h)) ρ := by
  unfold cgoM dpl
  rw [cgo_all h (fun a ha => (hg a ha).symm) hl, List.map_map]; rfl
theorem cM_int {h : α → Int} {hg : ∀ a (_ : a ∈ l), R.ok (some (D.int (h a), Md.dp)) ρ = f (v a) ρ} (hl : l.length ≤ 16777216) : cgoM t v l ρ (fun a _ => R.ok (some (D.int (h a), Md.dp)) ρ) hg = .ok (dpl ((l.map h).map D.int)) ρ := by
  rw [cM_gen hl, List.map_map]; rfl
theorem cM_bl {h : α → Bool} {hg : ∀ a (_ : a ∈ l), R.ok (some (D.bl (h a), Md.dp)) ρ = f (v a) ρ} (hl : l.length ≤ 16777216) : cgoM t v l ρ (fun a _ => R.ok (some (D.bl (h a), Md.dp)) ρ) hg = .ok (dpl ((l.map h).map D.bl)) ρ := by
  rw [cM_gen hl, List.map_map]; rfl
theorem cM_pr {h k : α → Int} {hg : ∀ a (_ : a ∈ l), R.ok (some (D.tup [D.int (h a), D.int (k a)], Md.dp)) ρ = f (v a) ρ} (hl : l.length ≤ 16777216) : cgoM t v l ρ (fun a _ => R.ok (some (D.tup [D.int (h a), D.int (k a)], Md.dp)) ρ) hg = .ok (dpl ((l.map fun a => (h a, k a)).map VS.prD)) ρ := by
  rw [cM_gen hl, List.map_map]; rfl
theorem cF_gen {p : α → Prop} [∀ a, Decidable (p a)] {h : α → D} {hg : ∀ a (_ : a ∈ l), (if p a then R.ok (some (h a, Md.dp)) ρ else R.ok none ρ) = f (v a) ρ} (hl : l.length ≤ 16777216) : cgoM t v l ρ (fun a _ => if p a then R.ok (some (h a, Md.dp)) ρ else R.ok none ρ) hg = .ok (dpl ((l.filter fun a => decide (p a)).map h)) ρ := by
  unfold cgoM dpl
  rw [cgo_filter (fun a => decide (p a)) h (fun a ha => by rw [← hg a ha]; by_cases c : p a <;> simp [c]) hl, List.map_map]; rfl
theorem cF_int {p : α → Prop} [∀ a, Decidable (p a)] {h : α → Int} {hg : ∀ a (_ : a ∈ l), (if p a then R.ok (some (D.int (h a), Md.dp)) ρ else R.ok none ρ) = f (v a) ρ} (hl : l.length ≤ 16777216) : cgoM t v l ρ (fun a _ => if p a then R.ok (some (D.int (h a), Md.dp)) ρ else R.ok none ρ) hg = .ok (dpl (((l.filter fun a => decide (p a)).map h).map D.int)) ρ := by
  rw [cF_gen hl, List.map_map]; rfl
theorem cF_pr {p : α → Prop} [∀ a, Decidable (p a)] {h k : α → Int} {hg : ∀ a (_ : a ∈ l), (if p a then R.ok (some (D.tup [D.int (h a), D.int (k a)], Md.dp)) ρ else R.ok none ρ) = f (v a) ρ} (hl : l.length ≤ 16777216) : cgoM t v l ρ (fun a _ => if p a then R.ok (some (D.tup [D.int (h a), D.int (k a)], Md.dp)) ρ else R.ok none ρ) hg = .ok (dpl (((l.filter fun a => decide (p a)).map fun a => (h a, k a)).map VS.prD)) ρ := by
  rw [cF_gen hl, List.map_map]; rfl
end
theorem cgo_nil {f : D → En → R (Option (D × Md))} {t : Tok f} {ρ : En} : cgo f t [] [] ρ = .ok (dpl []) ρ := rfl
theorem map_pr_id {l : List (Int × Int)} : l.map (fun a => (a.1, a.2)) = l := by simp
theorem map_id1 {α : Type} {l : List α} : l.map (fun a => a) = l := by simp
theorem pr_eta {α β : Type} {p : α × β} : (p.1, p.2) = p := rfl
theorem prD_ap {a : Int × Int} : VS.prD a = .tup [.int a.1, .int a.2] := rfl
theorem eqs_mn {α : Type} {f : α → D} : ∀ {l : List α}, PyData.eqvAll (toPs (l.map f)) (toPs []) = l.isEmpty
  | [] => eqs_nn
  | _ :: _ => eqs_cn
theorem eqs_nm {α : Type} {f : α → D} : ∀ {l : List α}, PyData.eqvAll (toPs []) (toPs (l.map f)) = l.isEmpty
  | [] => eqs_nn
  | _ :: _ => eqs_nc
theorem bls_map : ∀ bs : List Bool, blsD (bs.map .bl) = some bs
  | [] => rfl
  | b :: r => by simp [blsD, bls_map r]
theorem bi_allB {bs : List Bool} : biD .all [.lst (bs.map D.bl)] = some (.bl (bs.all id), .dp) := by
  simp only [biD, lstB, bls_map, Option.map_some]
theorem bi_anyB {bs : List Bool} : biD .any [.lst (bs.map D.bl)] = some (.bl (bs.any id), .dp) := by
  simp only [biD, lstB, bls_map, Option.map_some]
-- rows of 0 and 1
theorem bin_app {a b : List Int} (h : ∀ x, x ∈ a → x = 0 ∨ x = 1) (h' : ∀ x, x ∈ b → x = 0 ∨ x = 1) : ∀ x, x ∈ a ++ b → x = 0 ∨ x = 1 := fun x hx => (List.mem_append.mp hx).elim (h x) (h' x)
theorem bin_rep0 {k : Nat} : ∀ x, x ∈ List.replicate k (0 : Int) → x = 0 ∨ x = 1 := fun x hx => by rw [List.eq_of_mem_replicate hx]; exact .inl rfl
theorem bin_rep1 {k : Nat} : ∀ x, x ∈ List.replicate k (1 : Int) → x = 0 ∨ x = 1 := fun x hx => by rw [List.eq_of_mem_replicate hx]; exact .inr rfl
theorem bin_nil : ∀ x, x ∈ ([] : List Int) → x = 0 ∨ x = 1 := fun x hx => by cases hx
theorem bin_c0 {l : List Int} (h : ∀ x, x ∈ l → x = 0 ∨ x = 1) : ∀ x, x ∈ (0 : Int) :: l → x = 0 ∨ x = 1 := fun x hx => (List.mem_cons.mp hx).elim (fun e => .inl e) (h x)
theorem bin_c1 {l : List Int} (h : ∀ x, x ∈ l → x = 0 ∨ x = 1) : ∀ x, x ∈ (1 : Int) :: l → x = 0 ∨ x = 1 := fun x hx => (List.mem_cons.mp hx).elim (fun e => .inr e) (h x)
end Ru

set_option Elab.async false
set_option linter.all false
/-! XD: two rows laid one behind the other. -/
namespace Vo
/-- the rises and falls of a voice -/
def Rise (f : Nat → Bool) (t : Nat) : Prop := 1 ≤ t ∧ f (t - 1) = false ∧ f t = true
def Fall (f : Nat → Bool) (t : Nat) : Prop := 1 ≤ t ∧ f (t - 1) = true ∧ f t = false
/-- behind all open lines a voice ends -/
theorem ev_some {r : Nat → Bool} {a g t : Nat} (h : a ≤ op r t) : ev r a g t = some true := by simp [ev, h]
theorem ev_off {r : Nat → Bool} {a g t : Nat} (h : op r t < a) (h2 : cg g (cl r t) = true) : ev r a g t = some false := by
  have : ¬ a ≤ op r t := by omega
  simp [ev, this, h2]
theorem ev_none {r : Nat → Bool} {a g t : Nat} (h : op r t < a) (h2 : cg g (cl r t) = false) : ev r a g t = none := by
  have : ¬ a ≤ op r t := by omega
  simp [ev, this, h2]
theorem op_closed {r : Nat → Bool} {t : Nat} (h : r t = false) : op r (t + 1) = 0 := by simp [op, h]
theorem cl_open {r : Nat → Bool} {t : Nat} (h : r t = true) : cl r (t + 1) = some 0 := by simp [cl, h]
/-- closed lines on: the closed run grows -/
theorem cl_on {r : Nat → Bool} {s c : Nat} (hc : cl r s = some c) : ∀ d, (∀ k, s ≤ k → k < s + d → r k = false) → cl r (s + d) = some (c + d)
  | 0, _ => hc
  | d + 1, h => by
    have := cl_on hc d fun k h1 h2 => h k h1 (by omega)
    rw [← Nat.add_assoc]
    simp [cl, h (s + d) (by omega) (by omega), this]
    omega
theorem op_on {r : Nat → Bool} {s : Nat} : ∀ d, (∀ k, s ≤ k → k < s + d → r k = true) → op r (s + d) = op r s + d
  | 0, _ => rfl
  | d + 1, h => by
    have := op_on d fun k h1 h2 => h k h1 (by omega)
    rw [← Nat.add_assoc]
    simp [op, h (s + d) (by omega) (by omega), this]
    omega
/-- a closed run is no longer than the time since any open line -/
theorem cl_le {r : Nat → Bool} {s : Nat} (h : r s = true) : ∀ t, s < t → ∃ c, cl r t = some c ∧ c ≤ t - s - 1
  | 0, ht => by omega
  | t + 1, ht => by
    by_cases e : t = s
    · subst e; exact ⟨0, cl_open h, by omega⟩
    · obtain ⟨c, h1, h2⟩ := cl_le h t (by omega)
      by_cases ho : r t = true
      · exact ⟨0, cl_open ho, by omega⟩
      · have ho : r t = false := by simpa using ho
        exact ⟨c + 1, by simp [cl, ho, h1], by omega⟩
/-- what a run of open lines is -/
theorem op_back {r : Nat → Bool} : ∀ t k, t - op r t ≤ k → k < t → r k = true
  | 0, k, _, h => by omega
  | t + 1, k, h1, h2 => by
    cases h : r t with
    | false => rw [op_closed h] at h1; omega
    | true =>
      have e : op r (t + 1) = op r t + 1 := by simp [op, h]
      by_cases q : k = t
      · rw [q]; exact h
      · exact op_back t k (by omega) (by omega)
theorem op_le_t {r : Nat → Bool} : ∀ t, op r t ≤ t
  | 0 => Nat.le_refl _
  | t + 1 => by
    have := op_le_t (r := r) t
    simp only [op]
    split <;> omega
/-- what a run of closed lines is -/
theorem cl_back {r : Nat → Bool} : ∀ t c, cl r t = some c → c < t ∧ (∀ k, t - c ≤ k → k < t → r k = false) ∧ r (t - c - 1) = true
  | 0, c, h => by simp [cl] at h
  | t + 1, c, h => by
    cases ho : r t with
    | true =>
      rw [cl_open ho] at h
      have := Option.some.inj h
      subst this
      exact ⟨by omega, fun k h1 h2 => by omega, by simpa using ho⟩
    | false =>
      have e : cl r (t + 1) = (cl r t).map (· + 1) := by simp [cl, ho]
      rw [e] at h
      cases q : cl r t with
      | none => rw [q] at h; cases h
      | some c0 =>
        rw [q] at h
        have this : c0 + 1 = c := Option.some.inj h
        subst this
        obtain ⟨h1, h2, h3⟩ := cl_back t c0 q
        refine ⟨by omega, fun k k1 k2 => ?_, ?_⟩
        · by_cases z : k = t
          · rw [z]; exact ho
          · exact h2 k (by omega) (by omega)
        · rw [show t + 1 - (c0 + 1) - 1 = t - c0 - 1 by omega]; exact h3
theorem cl_none {r : Nat → Bool} : ∀ t, (∀ k, k < t → r k = false) → cl r t = none
  | 0, _ => rfl
  | t + 1, h => by simp [cl, h t (by omega), cl_none t fun k hk => h k (by omega)]
theorem op_zero {r : Nat → Bool} : ∀ t, (∀ k, k < t → r k = false) → op r t = 0
  | 0, _ => rfl
  | t + 1, h => by simp [op, h t (by omega)]
/-- no open line so far: no voice -/
theorem fl_quiet {r : Nat → Bool} {a g : Nat} (ha : 1 ≤ a) {n : Nat} (h : ∀ k, k < n → r k = false) : ∀ t, t ≤ n → fl r a g t = false
  | 0, _ => fl_0 ha
  | t + 1, ht => by
    rw [fl_s, ev_off (by rw [op_zero _ fun k hk => h k (by omega)]; omega) (by rw [cl_none _ fun k hk => h k (by omega)]; rfl)]
    rfl
/-- only closed lines from s on, and silent at s: silent -/
theorem fl_stay0 {r : Nat → Bool} {a g : Nat} (ha : 1 ≤ a) {s n : Nat} (h0 : fl r a g s = false) (h : ∀ k, s ≤ k → k < n → r k = false) : ∀ d, s + d ≤ n → fl r a g (s + d) = false
  | 0, _ => h0
  | d + 1, hd => by
    have ih := fl_stay0 ha h0 h d (by omega)
    rw [← Nat.add_assoc, fl_s, ih]
    have o : op r (s + d + 1) = 0 := op_closed (h (s + d) (by omega) (by omega))
    cases q : cg g (cl r (s + d + 1)) with
    | true => rw [ev_off (by omega) q]; rfl
    | false => rw [ev_none (by omega) q]; rfl
section
variable {r o : Nat → Bool} {m a g : Nat}
/-- the joined row -/
def jn (r o : Nat → Bool) (m k : Nat) : Bool := if k < m then r k else o (k - m)
theorem jn_l {k : Nat} (h : k < m) : jn r o m k = r k := by simp [jn, h]
theorem jn_r {u : Nat} : jn r o m (m + u) = o u := by
  have : ¬ m + u < m := by omega
  simp [jn, this]
theorem fl_l {t : Nat} (h : t ≤ m) : fl (jn r o m) a g t = fl r a g t := fl_congr (n := m) (fun k hk => jn_l hk) a g t h
theorem op_l {t : Nat} (h : t ≤ m) : op (jn r o m) t = op r t := op_congr (n := m) (fun k hk => jn_l hk) t h
theorem cl_l {t : Nat} (h : t ≤ m) : cl (jn r o m) t = cl r t := cl_congr (n := m) (fun k hk => jn_l hk) t h
/-- from a moment on at which runs and voices agree, they agree -/
theorem fl_from {s : Nat} (h1 : op (jn r o m) (m + s) = op o s) (h2 : cl (jn r o m) (m + s) = cl o s) (h3 : fl (jn r o m) a g (m + s) = fl o a g s) :
    ∀ d, op (jn r o m) (m + s + d) = op o (s + d) ∧ cl (jn r o m) (m + s + d) = cl o (s + d) ∧ fl (jn r o m) a g (m + s + d) = fl o a g (s + d)
  | 0 => ⟨h1, h2, h3⟩
  | d + 1 => by
    obtain ⟨i1, i2, i3⟩ := fl_from h1 h2 h3 d
    have e : jn r o m (m + s + d) = o (s + d) := by rw [Nat.add_assoc]; exact jn_r
    have o1 : op (jn r o m) (m + s + d + 1) = op o (s + d + 1) := by simp [op, e, i1]
    have c1 : cl (jn r o m) (m + s + d + 1) = cl o (s + d + 1) := by simp [cl, e, i2]
    refine ⟨o1, c1, ?_⟩
    rw [← Nat.add_assoc, ← Nat.add_assoc, fl_s, fl_s, i3]
    simp only [ev, o1, c1]
/-- the turns of the joined row are those of both rows, one behind the other -/
def Same2 (J R O : Nat → Bool) (m : Nat) : Prop := ∀ t, (Rise J t ↔ Rise R t ∨ (m ≤ t ∧ Rise O (t - m))) ∧ (Fall J t ↔ Fall R t ∨ (m ≤ t ∧ Fall O (t - m)))
theorem same_of {J R O : Nat → Bool} {c : Nat} (hc : m ≤ c) (h1 : ∀ t, t ≤ c → J t = R t) (h2 : ∀ u, u ≤ c - m → O u = false) (h3 : ∀ t, c ≤ t → J t = O (t - m)) (h4 : ∀ t, c ≤ t → R t = false) : Same2 J R O m := by
  intro t
  by_cases k : t ≤ c
  · have e1 := h1 t k
    have e2 := h1 (t - 1) (by omega)
    have no : m ≤ t → O (t - m) = false ∧ O (t - m - 1) = false := fun hm => ⟨h2 _ (by omega), h2 _ (by omega)⟩
    constructor
    · constructor
      · rintro ⟨a1, a2, a3⟩; exact .inl ⟨a1, e2 ▸ a2, e1 ▸ a3⟩
      · rintro (⟨a1, a2, a3⟩ | ⟨a0, a1, a2, a3⟩)
        · exact ⟨a1, e2.symm ▸ a2, e1.symm ▸ a3⟩
        · rw [(no a0).1] at a3; cases a3
    · constructor
      · rintro ⟨a1, a2, a3⟩; exact .inl ⟨a1, e2 ▸ a2, e1 ▸ a3⟩
      · rintro (⟨a1, a2, a3⟩ | ⟨a0, a1, a2, a3⟩)
        · exact ⟨a1, e2.symm ▸ a2, e1.symm ▸ a3⟩
        · rw [(no a0).2] at a2; cases a2
  · have e1 := h3 t (by omega)
    have e2 := h3 (t - 1) (by omega)
    have z1 := h4 t (by omega)
    have z2 := h4 (t - 1) (by omega)
    rw [show t - 1 - m = t - m - 1 by omega] at e2
    constructor
    · constructor
      · rintro ⟨a1, a2, a3⟩; exact .inr ⟨by omega, by omega, e2 ▸ a2, e1 ▸ a3⟩
      · rintro (⟨a1, a2, a3⟩ | ⟨a0, a1, a2, a3⟩)
        · rw [z1] at a3; cases a3
        · exact ⟨by omega, e2.symm ▸ a2, e1.symm ▸ a3⟩
    · constructor
      · rintro ⟨a1, a2, a3⟩; exact .inr ⟨by omega, by omega, e2 ▸ a2, e1 ▸ a3⟩
      · rintro (⟨a1, a2, a3⟩ | ⟨a0, a1, a2, a3⟩)
        · rw [z2] at a2; cases a2
        · exact ⟨by omega, e2.symm ▸ a2, e1.symm ▸ a3⟩
/-- no open line in the first row -/
theorem join_left (ha : 1 ≤ a) (hr : ∀ k, r k = false) : Same2 (fl (jn r o m) a g) (fl r a g) (fl o a g) m := by
  have q : ∀ t, fl r a g t = false := fun t => fl_quiet ha (n := t) (fun k _ => hr k) t (Nat.le_refl _)
  have b := fl_from (r := r) (o := o) (m := m) (a := a) (g := g) (s := 0) (by rw [Nat.add_zero, op_l (Nat.le_refl _), op_zero _ fun k _ => hr k]; rfl) (by rw [Nat.add_zero, cl_l (Nat.le_refl _), cl_none _ fun k _ => hr k]; rfl) (by rw [Nat.add_zero, fl_l (Nat.le_refl _), q, fl_0 ha])
  refine same_of (Nat.le_refl _) (fun t ht => fl_l ht) (fun u hu => ?_) (fun t ht => ?_) (fun t _ => q t)
  · rw [show u = 0 by omega, fl_0 ha]
  · have := (b (t - m)).2.2
    rw [show m + 0 + (t - m) = t by omega, Nat.zero_add] at this
    exact this
/-- no open line in the second row -/
theorem join_right (ha : 1 ≤ a) (hr : ∀ k, m ≤ k → r k = false) (ho : ∀ k, o k = false) : Same2 (fl (jn r o m) a g) (fl r a g) (fl o a g) m := by
  have e : jn r o m = r := by
    funext k
    by_cases h : k < m
    · exact jn_l h
    · have := jn_r (r := r) (o := o) (m := m) (u := k - m)
      rw [show m + (k - m) = k by omega] at this
      rw [this, ho, hr k (by omega)]
  rw [e]
  have q : ∀ t, fl o a g t = false := fun t => fl_quiet ha (n := t) (fun k _ => ho k) t (Nat.le_refl _)
  intro t
  constructor
  · exact ⟨.inl, fun h => h.elim id fun h => by have := h.2.2.2; rw [q] at this; cases this⟩
  · exact ⟨.inl, fun h => h.elim id fun h => by have := h.2.2.1; rw [q] at this; cases this⟩
/-- a step of the voice without a set -/
theorem fl_keep0 {q : Nat → Bool} {t : Nat} (h0 : fl q a g t = false) (h : op q (t + 1) < a) : fl q a g (t + 1) = false := by
  rw [fl_s, h0]
  cases c : cg g (cl q (t + 1)) with
  | true => rw [ev_off h c]; rfl
  | false => rw [ev_none h c]; rfl
theorem fl_keep1 {q : Nat → Bool} {t : Nat} (h0 : fl q a g t = true) (h : cg g (cl q (t + 1)) = false) : fl q a g (t + 1) = true := by
  rw [fl_s, h0]
  by_cases c : a ≤ op q (t + 1)
  · rw [ev_some c]; rfl
  · rw [ev_none (by omega) h]; rfl
/-- behind closed lines both voices go the same way -/
theorem join_sync {z2 : Nat} (ha : 1 ≤ a) (hz : ∀ k, k < z2 → o k = false) (hz2 : o z2 = true) (hop : op (jn r o m) (m + z2) = 0) (h0 : fl (jn r o m) a g (m + z2) = false) : ∀ u, z2 ≤ u → fl (jn r o m) a g (m + u) = fl o a g u := by
  have q0 : fl o a g z2 = false := fl_quiet ha hz z2 (Nat.le_refl _)
  have jz : jn r o m (m + z2) = true := by rw [jn_r]; exact hz2
  have o1 : op (jn r o m) (m + z2 + 1) = op o (z2 + 1) := by simp [op, jz, hz2, hop, op_zero _ hz]
  have c1 : cl (jn r o m) (m + z2 + 1) = cl o (z2 + 1) := by rw [cl_open jz, cl_open hz2]
  have f1 : fl (jn r o m) a g (m + z2 + 1) = fl o a g (z2 + 1) := by
    rw [fl_s, fl_s, h0, q0]
    simp only [ev, o1, c1]
  intro u hu
  by_cases e : u = z2
  · subst e; rw [h0, q0]
  · have := (fl_from (s := z2 + 1) o1 c1 f1 (u - z2 - 1)).2.2
    rw [show m + (z2 + 1) + (u - z2 - 1) = m + u by omega, show z2 + 1 + (u - z2 - 1) = u by omega] at this
    exact this
/-- clean at the edge: the condition in words -/
theorem join_iff {z1 z2 F : Nat} (ha : 1 ≤ a) (hg : 1 ≤ g) (hr : ∀ k, m ≤ k → r k = false) (hc : cl r m = some z1) (hz : ∀ k, k < z2 → o k = false) (hz2 : o z2 = true) (hF : z2 = 0 → (∀ k, k < F → o k = true) ∧ o F = false) :
    Same2 (fl (jn r o m) a g) (fl r a g) (fl o a g) m ↔ ¬ (fl r a g (m - z1) = true ∧ z1 + z2 < g) ∧ ¬ (z1 + z2 = 0 ∧ a ≤ op r m + F) := by
  obtain ⟨b1, b2, b3⟩ := cl_back m z1 hc
  have rc : ∀ k, m - z1 ≤ k → r k = false := fun k hk => by
    by_cases q : k < m
    · exact b2 k hk q
    · exact hr k (by omega)
  have jc : ∀ k, m - z1 ≤ k → k < m + z2 → jn r o m k = false := fun k h1 h2 => by
    by_cases q : k < m
    · rw [jn_l q]; exact rc k h1
    · have := jn_r (r := r) (o := o) (m := m) (u := k - m)
      rw [show m + (k - m) = k by omega] at this
      rw [this]; exact hz _ (by omega)
  have op0 : 0 < z1 + z2 → op (jn r o m) (m + z2) = 0 := fun h => by
    have : m + z2 = (m + z2 - 1) + 1 := by omega
    rw [this]
    exact op_closed (jc _ (by omega) (by omega))
  have cedge : cl r (m - z1) = some 0 := by
    have : m - z1 = (m - z1 - 1) + 1 := by omega
    rw [this]
    exact cl_open b3
  have qo : ∀ u, u ≤ z2 → fl o a g u = false := fun u hu => fl_quiet ha hz u hu
  constructor
  · intro S
    refine ⟨fun ⟨h1, h2⟩ => ?_, fun ⟨h1, h2⟩ => ?_⟩
    · -- the end at edge + g is missing
      have R1 : ∀ d, d < g → fl r a g (m - z1 + d) = true := fun d => by
        induction d with
        | zero => intro _; exact h1
        | succ d ih =>
          intro hd
          rw [← Nat.add_assoc]
          refine fl_keep1 (ih (by omega)) ?_
          rw [Nat.add_assoc, cl_on cedge (d + 1) fun k k1 k2 => rc k k1]
          simp [cg]; omega
      have R0 : fl r a g (m - z1 + g) = false := by
        have e : m - z1 + g = (m - z1 + (g - 1)) + 1 := by omega
        rw [e, fl_s, ev_off]
        · rfl
        · rw [op_closed (rc _ (by omega))]; omega
        · rw [← e, cl_on cedge g fun k k1 k2 => rc k k1]; simp [cg]
      have J1 : ∀ d, d ≤ g → fl (jn r o m) a g (m - z1 + d) = true := fun d => by
        induction d with
        | zero => intro _; rw [Nat.add_zero, fl_l (by omega)]; exact h1
        | succ d ih =>
          intro hd
          rw [← Nat.add_assoc]
          refine fl_keep1 (ih (by omega)) ?_
          by_cases q : d + 1 ≤ z1 + z2
          · have ce : cl (jn r o m) (m - z1) = some 0 := by rw [cl_l (by omega)]; exact cedge
            rw [Nat.add_assoc, cl_on ce (d + 1) fun k k1 k2 => jc k k1 (by omega)]
            simp [cg]; omega
          · have jz : jn r o m (m + z2) = true := by rw [jn_r]; exact hz2
            obtain ⟨c, c1, c2⟩ := cl_le jz (m - z1 + d + 1) (by omega)
            rw [c1]
            simp [cg]; omega
      have fr : Fall (fl r a g) (m - z1 + g) := ⟨by omega, by rw [show m - z1 + g - 1 = m - z1 + (g - 1) by omega]; exact R1 _ (by omega), R0⟩
      have := ((S (m - z1 + g)).2.mpr (.inl fr)).2.2
      rw [J1 g (Nat.le_refl _)] at this
      cases this
    · -- a begin too many
      have z10 : z1 = 0 := by omega
      have z20 : z2 = 0 := by omega
      subst z10 z20
      obtain ⟨hF1, hF2⟩ := hF rfl
      rw [Nat.sub_zero] at cedge b3
      by_cases fm : fl r a g m = true
      · -- then the other condition fails as well: the end at m + g
        have R0 : fl r a g (m + g) = false := by
          have e : m + g = (m + (g - 1)) + 1 := by omega
          rw [e, fl_s, ev_off]
          · rfl
          · rw [op_closed (hr _ (by omega))]; omega
          · rw [← e, cl_on cedge g fun k k1 k2 => hr k k1]; simp [cg]
        have R1 : ∀ d, d < g → fl r a g (m + d) = true := fun d => by
          induction d with
          | zero => intro _; exact fm
          | succ d ih =>
            intro hd
            rw [← Nat.add_assoc]
            refine fl_keep1 (ih (by omega)) ?_
            rw [Nat.add_assoc, cl_on cedge (d + 1) fun k k1 k2 => hr k k1]
            simp [cg]; omega
        have J1 : ∀ d, d ≤ g → fl (jn r o m) a g (m + d) = true := fun d => by
          induction d with
          | zero => intro _; rw [Nat.add_zero, fl_l (by omega)]; exact fm
          | succ d ih =>
            intro hd
            rw [← Nat.add_assoc]
            refine fl_keep1 (ih (by omega)) ?_
            have jz : jn r o m m = true := by have := jn_r (r := r) (o := o) (m := m) (u := 0); rw [Nat.add_zero] at this; rw [this]; exact hz2
            obtain ⟨c, c1, c2⟩ := cl_le jz (m + d + 1) (by omega)
            rw [c1]
            simp [cg]; omega
        have fr : Fall (fl r a g) (m + g) := ⟨by omega, by rw [show m + g - 1 = m + (g - 1) by omega]; exact R1 _ (by omega), R0⟩
        have := ((S (m + g)).2.mpr (.inl fr)).2.2
        rw [J1 g (Nat.le_refl _)] at this
        cases this
      have fm : fl r a g m = false := by simpa using fm
      have La : op r m < a := by
        by_cases q : op r m < a
        · exact q
        · have : m = (m - 1) + 1 := by omega
          rw [this, fl_s, ← this, ev_some (by omega)] at fm
          cases fm
      have L1 : 1 ≤ op r m := by
        have : m = (m - 1) + 1 := by omega
        rw [this]
        simp [op, b3]
      have jo : ∀ u, u ≤ F → op (jn r o m) (m + u) = op r m + u := fun u hu => by
        rw [op_on u fun k k1 k2 => by
          have := jn_r (r := r) (o := o) (m := m) (u := k - m)
          rw [show m + (k - m) = k by omega] at this
          rw [this]; exact hF1 _ (by omega), op_l (Nat.le_refl _)]
      have J0 : ∀ u, u < a - op r m → fl (jn r o m) a g (m + u) = false := fun u => by
        induction u with
        | zero => intro _; rw [Nat.add_zero, fl_l (Nat.le_refl _)]; exact fm
        | succ u ih =>
          intro hu
          rw [← Nat.add_assoc]
          exact fl_keep0 (ih (by omega)) (by rw [Nat.add_assoc, jo (u + 1) (by omega)]; omega)
      have rise : Rise (fl (jn r o m) a g) (m + (a - op r m)) := by
        have e : m + (a - op r m) = m + (a - op r m - 1) + 1 := by omega
        refine ⟨by omega, by rw [show m + (a - op r m) - 1 = m + (a - op r m - 1) by omega]; exact J0 _ (by omega), ?_⟩
        rw [e, fl_s, ev_some]
        · rfl
        · rw [← e, jo _ (by omega)]; omega
      rcases (S _).1.mp rise with x | ⟨_, x⟩
      · have := x.2.2
        rw [fl_stay0 ha (s := m) (n := m + (a - op r m)) fm (fun k k1 _ => hr k k1) _ (Nat.le_refl _)] at this
        cases this
      · rw [show m + (a - op r m) - m = a - op r m by omega] at x
        have O0 : ∀ u, u ≤ a - op r m → fl o a g u = false := fun u => by
          induction u with
          | zero => intro _; exact fl_0 ha
          | succ u ih =>
            intro hu
            refine fl_keep0 (ih (by omega)) ?_
            have := op_on (r := o) (s := 0) (u + 1) fun k _ k2 => hF1 k (by omega)
            rw [Nat.zero_add] at this
            rw [this]
            simp [op]; omega
        have := x.2.2
        rw [O0 _ (Nat.le_refl _)] at this
        cases this
  · rintro ⟨c1, c2⟩
    by_cases fe : fl r a g (m - z1) = true
    · -- on at the edge: the end comes ahead of the other row's open lines
      have hzg : g ≤ z1 + z2 := by
        by_cases q : z1 + z2 < g
        · exact absurd ⟨fe, q⟩ c1
        · omega
      have jr : ∀ k, k < m + z2 → jn r o m k = r k := fun k hk => by
        by_cases q : k < m
        · exact jn_l q
        · rw [jc k (by omega) hk, hr k (by omega)]
      have fj : ∀ t, t ≤ m + z2 → fl (jn r o m) a g t = fl r a g t := fun t ht => fl_congr (n := m + z2) jr a g t ht
      have off : fl r a g (m + z2) = false := by
        have e : m + z2 = m + z2 - 1 + 1 := by omega
        have ce := cl_on cedge (z1 + z2) fun k k1 k2 => rc k k1
        rw [show m - z1 + (z1 + z2) = m + z2 by omega] at ce
        rw [e, fl_s, ev_off]
        · rfl
        · rw [op_closed (rc _ (by omega))]; omega
        · rw [← e, ce]; simp [cg]; omega
      have jo := join_sync (r := r) (m := m) (g := g) ha hz hz2 (op0 (by omega)) (by rw [fj _ (Nat.le_refl _)]; exact off)
      refine same_of (c := m + z2) (by omega) fj (fun u hu => qo u (by omega)) (fun t ht => ?_) (fun t ht => ?_)
      · have := jo (t - m) (by omega)
        rw [show m + (t - m) = t by omega] at this
        exact this
      · have := fl_stay0 ha (s := m + z2) (n := t) off (fun k k1 _ => hr k (by omega)) (t - (m + z2)) (by omega)
        rw [show m + z2 + (t - (m + z2)) = t by omega] at this
        exact this
    · have fe : fl r a g (m - z1) = false := by simpa using fe
      have r0 : ∀ t, m - z1 ≤ t → fl r a g t = false := fun t ht => by
        have := fl_stay0 ha (s := m - z1) (n := t) fe (fun k k1 _ => rc k k1) (t - (m - z1)) (by omega)
        rw [show m - z1 + (t - (m - z1)) = t by omega] at this
        exact this
      have j0 : ∀ u, u ≤ z2 → fl (jn r o m) a g (m + u) = false := fun u hu => by
        have := fl_stay0 (r := jn r o m) ha (s := m) (n := m + z2) (by rw [fl_l (Nat.le_refl _)]; exact r0 m (by omega)) (fun k k1 k2 => jc k (by omega) k2) u (by omega)
        exact this
      have fin : (∀ u, fl (jn r o m) a g (m + u) = fl o a g u) → Same2 (fl (jn r o m) a g) (fl r a g) (fl o a g) m := fun h =>
        same_of (c := m) (Nat.le_refl _) (fun t ht => fl_l ht) (fun u hu => qo u (by omega)) (fun t ht => by
          have := h (t - m)
          rw [show m + (t - m) = t by omega] at this
          exact this) (fun t ht => r0 t (by omega))
      by_cases zz : 0 < z1 + z2
      · have jo := join_sync (r := r) (m := m) (g := g) ha hz hz2 (op0 zz) (j0 z2 (Nat.le_refl _))
        refine fin fun u => ?_
        by_cases q : z2 ≤ u
        · exact jo u q
        · rw [j0 u (by omega), qo u (by omega)]
      · have z10 : z1 = 0 := by omega
        have z20 : z2 = 0 := by omega
        subst z10 z20
        obtain ⟨hF1, hF2⟩ := hF rfl
        have LF : op r m + F < a := by
          by_cases q : op r m + F < a
          · exact q
          · exact absurd ⟨rfl, by omega⟩ c2
        have F1 : 1 ≤ F := by
          by_cases q : F = 0
          · subst q; rw [hz2] at hF2; cases hF2
          · omega
        have jop : ∀ u, u ≤ F → op (jn r o m) (m + u) = op r m + u := fun u hu => by
          rw [op_on u fun k k1 k2 => by
            have := jn_r (r := r) (o := o) (m := m) (u := k - m)
            rw [show m + (k - m) = k by omega] at this
            rw [this]; exact hF1 _ (by omega), op_l (Nat.le_refl _)]
        have jz : ∀ u, u ≤ F → fl (jn r o m) a g (m + u) = false := fun u => by
          induction u with
          | zero => intro _; exact j0 0 (Nat.le_refl _)
          | succ u ih =>
            intro hu
            rw [← Nat.add_assoc]
            exact fl_keep0 (ih (by omega)) (by rw [Nat.add_assoc, jop (u + 1) hu]; omega)
        have oz : ∀ u, u ≤ F → fl o a g u = false := fun u => by
          induction u with
          | zero => intro _; exact fl_0 ha
          | succ u ih =>
            intro hu
            refine fl_keep0 (ih (by omega)) ?_
            have := op_on (r := o) (s := 0) (u + 1) fun k _ k2 => hF1 k (by omega)
            rw [Nat.zero_add] at this
            rw [this]
            simp [op]; omega
        have jF : jn r o m (m + F) = false := by rw [jn_r]; exact hF2
        have cj : cl (jn r o m) (m + F) = some 0 := by
          have : m + F = m + (F - 1) + 1 := by omega
          rw [this]
          refine cl_open ?_
          rw [jn_r]; exact hF1 _ (by omega)
        have co : cl o F = some 0 := by
          have : F = F - 1 + 1 := by omega
          rw [this]
          exact cl_open (hF1 _ (by omega))
        have s1 : op (jn r o m) (m + (F + 1)) = op o (F + 1) := by rw [← Nat.add_assoc, op_closed jF, op_closed hF2]
        have s2 : cl (jn r o m) (m + (F + 1)) = cl o (F + 1) := by
          rw [← Nat.add_assoc]
          simp [cl, jF, hF2, cj, co]
        have s3 : fl (jn r o m) a g (m + (F + 1)) = fl o a g (F + 1) := by
          rw [← Nat.add_assoc, fl_s, fl_s, jz F (Nat.le_refl _), oz F (Nat.le_refl _)]
          rw [← Nat.add_assoc] at s1 s2
          simp only [ev, s1, s2]
        have syn := fl_from s1 s2 s3
        refine fin fun u => ?_
        by_cases q : u ≤ F
        · rw [jz u q, oz u q]
        · have := (syn (u - (F + 1))).2.2
          rw [show m + (F + 1) + (u - (F + 1)) = m + u by omega, show F + 1 + (u - (F + 1)) = u by omega] at this
          exact this
end
end Vo

set_option Elab.async false
set_option linter.all false
/-! XE: the notes of a row, told by their turns. -/
namespace Vo
theorem fl_end {r : Nat → Bool} {m a g t : Nat} (ha : 1 ≤ a) (hg : 1 ≤ g) (hr : ∀ k, m ≤ k → r k = false) (ht : m + g ≤ t) : fl r a g t = false := by
  obtain ⟨u, rfl⟩ : ∃ u, t = u + 1 := ⟨t - 1, by omega⟩
  have o : op r (u + 1) = 0 := op_closed (hr u (by omega))
  cases c : cl r (u + 1) with
  | none =>
    refine fl_quiet ha (n := u + 1) (fun k hk => ?_) (u + 1) (Nat.le_refl _)
    cases q : r k with
    | false => rfl
    | true =>
      obtain ⟨c', h1, _⟩ := cl_le q (u + 1) hk
      rw [c] at h1; cases h1
  | some z =>
    obtain ⟨b1, b2, b3⟩ := cl_back (u + 1) z c
    have h : u + 1 - z - 1 < m := by
      rcases Nat.lt_or_ge (u + 1 - z - 1) m with h | h
      · exact h
      · rw [hr _ h] at b3; cases b3
    have e : ev r a g (u + 1) = some false := ev_off (by omega) (by rw [c]; simp [cg]; omega)
    rw [fl_s, e]; rfl
theorem first_off {f : Nat → Bool} {b : Nat} (hb : f b = true) : ∀ d, (∃ k, k ≤ d ∧ f (b + k) = false) → ∃ e, b < e ∧ e ≤ b + d ∧ f e = false ∧ ∀ t, b ≤ t → t < e → f t = true
  | 0, ⟨k, hk, h⟩ => by rw [show k = 0 by omega, Nat.add_zero, hb] at h; cases h
  | d + 1, ⟨k, hk, h⟩ => by
    by_cases q : ∃ k, k ≤ d ∧ f (b + k) = false
    · obtain ⟨e, h1, h2, h3, h4⟩ := first_off hb d q
      exact ⟨e, h1, by omega, h3, h4⟩
    · have hk1 : k = d + 1 := by
        rcases Nat.lt_or_ge k (d + 1) with z | z
        · exact absurd ⟨k, by omega, h⟩ q
        · omega
      subst hk1
      refine ⟨b + (d + 1), by omega, Nat.le_refl _, h, fun t h1 h2 => ?_⟩
      cases c : f t with
      | true => rfl
      | false => exact absurd ⟨t - b, by omega, by rw [show b + (t - b) = t by omega]; exact c⟩ q
theorem rise_note {f : Nat → Bool} {n t : Nat} (h : Rise f t) (hn : ∀ u, n ≤ u → f u = false) : ∃ e, Note f t e ∧ e ≤ n := by
  obtain ⟨h1, h2, h3⟩ := h
  have ht : t < n := by
    rcases Nat.lt_or_ge t n with q | q
    · exact q
    · rw [hn t q] at h3; cases h3
  obtain ⟨e, e1, e2, e3, e4⟩ := first_off h3 (n - t) ⟨n - t, Nat.le_refl _, by rw [show t + (n - t) = n by omega]; exact hn n (Nat.le_refl _)⟩
  exact ⟨e, ⟨e1, h1, h2, e4, e3⟩, by omega⟩
theorem fall_note {f : Nat → Bool} {n t : Nat} (h0 : f 0 = false) (h : Fall f t) (hn : ∀ u, n ≤ u → f u = false) : ∃ b, Note f b t ∧ t ≤ n := by
  obtain ⟨h1, h2, h3⟩ := h
  obtain ⟨s1, s2, s3, s4⟩ := bg_spec h0 (t - 1) h2
  refine ⟨bg f (t - 1), ⟨by omega, s1, s3, fun u a b => s4 u a (by omega), h3⟩, ?_⟩
  rcases Nat.lt_or_ge n t with q | q
  · rw [hn (t - 1) (by omega)] at h2; cases h2
  · exact q
theorem note_rise {f : Nat → Bool} {b e : Nat} (h : Note f b e) : Rise f b := ⟨h.pos, h.z, h.one b (Nat.le_refl _) h.lt⟩
theorem note_fall {f : Nat → Bool} {b e : Nat} (h : Note f b e) : Fall f e := ⟨by have := h.lt; omega, h.one (e - 1) (by have := h.lt; omega) (by have := h.lt; omega), h.e0⟩
/-- the turns of the notes are the rises and the falls -/
theorem rise_iff {f : Nat → Bool} {n t : Nat} (h0 : f 0 = false) (hn : ∀ u, n ≤ u → f u = false) : Rise f t ↔ ∃ p, p ∈ nts f n ∧ p.1 = t :=
  ⟨fun h => by
    obtain ⟨e, h1, h2⟩ := rise_note h hn
    exact ⟨(t, e), (mem_nts h0 n t e).mpr ⟨h1, h2⟩, rfl⟩, fun ⟨p, h, e⟩ => e ▸ note_rise ((mem_nts h0 n p.1 p.2).mp h).1⟩
theorem fall_iff {f : Nat → Bool} {n t : Nat} (h0 : f 0 = false) (hn : ∀ u, n ≤ u → f u = false) : Fall f t ↔ ∃ p, p ∈ nts f n ∧ p.2 = t :=
  ⟨fun h => by
    obtain ⟨b, h1, h2⟩ := fall_note h0 h hn
    exact ⟨(b, t), (mem_nts h0 n b t).mpr ⟨h1, h2⟩, rfl⟩, fun ⟨p, h, e⟩ => e ▸ note_fall ((mem_nts h0 n p.1 p.2).mp h).1⟩
end Vo

set_option Elab.async false
set_option linter.all false
/-! XF: the notes of a row told by its stretches. -/
namespace Vo
theorem nts_s (f : Nat → Bool) (t : Nat) : nts f (t + 1) = if f t && !f (t + 1) then nts f t ++ [(bg f t, t + 1)] else nts f t := rfl
theorem bg_s (f : Nat → Bool) (t : Nat) : bg f (t + 1) = if f (t + 1) && !f t then t + 1 else bg f t := rfl
theorem nts_const {f : Nat → Bool} {t : Nat} {x : Bool} : ∀ d, (∀ u, u ≤ d → f (t + u) = x) → nts f (t + d) = nts f t ∧ bg f (t + d) = bg f t
  | 0, _ => ⟨rfl, rfl⟩
  | d + 1, h => by
    obtain ⟨h1, h2⟩ := nts_const d fun u hu => h u (by omega)
    have e1 := h d (by omega)
    have e2 := h (d + 1) (by omega)
    rw [← Nat.add_assoc] at e2 ⊢
    rw [nts_s, bg_s, e1, e2, h1, h2]
    cases x <;> exact ⟨rfl, rfl⟩
theorem nts_rise {f : Nat → Bool} {t j d : Nat} (hj : 1 ≤ j) (hd : j ≤ d) (h0 : ∀ u, u < j → f (t + u) = false) (h1 : ∀ u, j ≤ u → u ≤ d → f (t + u) = true) : nts f (t + d) = nts f t ∧ bg f (t + d) = t + j := by
  obtain ⟨i, rfl⟩ : ∃ i, j = i + 1 := ⟨j - 1, by omega⟩
  obtain ⟨e, rfl⟩ : ∃ e, d = i + 1 + e := ⟨d - (i + 1), by omega⟩
  obtain ⟨a1, a2⟩ := nts_const i fun u hu => h0 u (by omega)
  have e1 := h0 i (by omega)
  have e2 := h1 (i + 1) (by omega) (by omega)
  have s : nts f (t + (i + 1)) = nts f t ∧ bg f (t + (i + 1)) = t + (i + 1) := by
    rw [← Nat.add_assoc] at e2 ⊢
    rw [nts_s, bg_s, e1, e2, a1]
    exact ⟨rfl, rfl⟩
  obtain ⟨b1, b2⟩ := nts_const (f := f) (t := t + (i + 1)) (x := true) e fun u hu => by
    rw [Nat.add_assoc]
    exact h1 (i + 1 + u) (by omega) (by omega)
  rw [← Nat.add_assoc, b1, b2]
  exact s
theorem nts_fall {f : Nat → Bool} {t j d : Nat} (hj : 1 ≤ j) (hd : j ≤ d) (h0 : ∀ u, u < j → f (t + u) = true) (h1 : ∀ u, j ≤ u → u ≤ d → f (t + u) = false) : nts f (t + d) = nts f t ++ [(bg f t, t + j)] := by
  obtain ⟨i, rfl⟩ : ∃ i, j = i + 1 := ⟨j - 1, by omega⟩
  obtain ⟨e, rfl⟩ : ∃ e, d = i + 1 + e := ⟨d - (i + 1), by omega⟩
  obtain ⟨a1, a2⟩ := nts_const i fun u hu => h0 u (by omega)
  have e1 := h0 i (by omega)
  have e2 := h1 (i + 1) (by omega) (by omega)
  have s : nts f (t + (i + 1)) = nts f t ++ [(bg f t, t + (i + 1))] := by
    rw [← Nat.add_assoc] at e2 ⊢
    rw [nts_s, e1, e2, a1, a2]
    rfl
  obtain ⟨b1, b2⟩ := nts_const (f := f) (t := t + (i + 1)) (x := false) e fun u hu => by
    rw [Nat.add_assoc]
    exact h1 (i + 1 + u) (by omega) (by omega)
  rw [← Nat.add_assoc, b1]
  exact s
/-- a row by its stretches -/
def sgf : List (Bool × Nat) → Nat → Bool
  | [], _ => false
  | (b, k) :: r, t => if t < k then b else sgf r (t - k)
def tot : List (Bool × Nat) → Nat
  | [] => 0
  | (_, k) :: r => k + tot r
def hdT : List (Bool × Nat) → Bool
  | [] => false
  | (b, _) :: _ => b
/-- they take turns, the last one open -/
def Alt : List (Bool × Nat) → Prop
  | [] => True
  | (b, k) :: r => 1 ≤ k ∧ (r = [] → b = true) ∧ (r ≠ [] → hdT r = !b) ∧ Alt r
/-- the walk over the stretches -/
def sgs (a g : Nat) : List (Bool × Nat) → Nat → Option Nat → List (Nat × Nat)
  | [], _, none => []
  | [], t, some b => [(b, t + g)]
  | (true, k) :: r, t, none => sgs a g r (t + k) (if a ≤ k then some (t + a) else none)
  | (true, k) :: r, t, some b => sgs a g r (t + k) (some b)
  | (false, k) :: r, t, none => sgs a g r (t + k) none
  | (false, k) :: r, t, some b => if g ≤ k then (b, t + g) :: sgs a g r (t + k) none else sgs a g r (t + k) (some b)
theorem n_le_t {α : Type} {a b : Nat} {x y : α} (h : a ≤ b) : (if a ≤ b then x else y) = x := if_pos h
theorem n_le_f {α : Type} {a b : Nat} {x y : α} (h : b < a) : (if a ≤ b then x else y) = y := if_neg (by omega)
section
variable {r : Nat → Bool} {a g : Nat}
theorem open_on {t : Nat} (ha : 1 ≤ a) (hg : 1 ≤ g) (ho : op r t = 0) : ∀ k, (∀ u, u < k → r (t + u) = true) → op r (t + k) = k ∧ (1 ≤ k → cl r (t + k) = some 0) ∧ fl r a g (t + k) = (fl r a g t || decide (a ≤ k))
  | 0, _ => ⟨ho, fun h => by omega, by simp; intro h; omega⟩
  | k + 1, h => by
    obtain ⟨h1, h2, h3⟩ := open_on ha hg ho k fun u hu => h u (by omega)
    have e := h k (by omega)
    have c : cl r (t + (k + 1)) = some 0 := by rw [← Nat.add_assoc]; exact cl_open e
    have o : op r (t + (k + 1)) = k + 1 := by rw [← Nat.add_assoc]; simp [op, e, h1]
    refine ⟨o, fun _ => c, ?_⟩
    rw [← Nat.add_assoc, fl_s, Nat.add_assoc]
    by_cases q : a ≤ k + 1
    · rw [ev_some (by rw [o]; exact q)]
      simp [q]
    · rw [ev_none (by rw [o]; omega) (by rw [c]; simp [cg]; omega)]
      rw [Option.getD_none, h3]
      have : ¬ a ≤ k := by omega
      simp [q, this]
theorem closed_on {t : Nat} (ha : 1 ≤ a) (hg : 1 ≤ g) (hc : fl r a g t = true → cl r t = some 0) : ∀ k, (∀ u, u < k → r (t + u) = false) → (1 ≤ k → op r (t + k) = 0) ∧ (fl r a g t = true → cl r (t + k) = some k) ∧ fl r a g (t + k) = (fl r a g t && decide (k < g))
  | 0, _ => ⟨fun h => by omega, hc, by simp; intro _; omega⟩
  | k + 1, h => by
    obtain ⟨h1, h2, h3⟩ := closed_on ha hg hc k fun u hu => h u (by omega)
    have e := h k (by omega)
    have o : op r (t + (k + 1)) = 0 := by rw [← Nat.add_assoc]; exact op_closed e
    have c : fl r a g t = true → cl r (t + (k + 1)) = some (k + 1) := fun q => by
      rw [← Nat.add_assoc]; simp [cl, e, h2 q]
    refine ⟨fun _ => o, c, ?_⟩
    rw [← Nat.add_assoc, fl_s, Nat.add_assoc]
    cases q : fl r a g t with
    | false =>
      rw [q] at h3
      cases z : cg g (cl r (t + (k + 1))) with
      | true => rw [ev_off (by rw [o]; omega) z]; simp
      | false => rw [ev_none (by rw [o]; omega) z, Option.getD_none, h3]; simp
    | true =>
      rw [q] at h3
      by_cases z : k + 1 < g
      · rw [ev_none (by rw [o]; omega) (by rw [c q]; simp [cg]; omega), Option.getD_none, h3]
        have : k < g := by omega
        simp [z, this]
      · rw [ev_off (by rw [o]; omega) (by rw [c q]; simp [cg]; omega)]
        simp [z]
theorem sgf_hd {b : Bool} {k : Nat} {s : List (Bool × Nat)} {t : Nat} (h : ∀ u, r (t + u) = sgf ((b, k) :: s) u) : (∀ u, u < k → r (t + u) = b) ∧ ∀ u, r (t + k + u) = sgf s u := by
  refine ⟨fun u hu => by rw [h]; simp [sgf, hu], fun u => ?_⟩
  rw [Nat.add_assoc, h]
  have : ¬ k + u < k := by omega
  simp [sgf, this]
theorem sgs_ok (ha : 1 ≤ a) (hg : 1 ≤ g) : ∀ (s : List (Bool × Nat)) (t : Nat) (st : Option Nat), Alt s → (∀ u, r (t + u) = sgf s u) → fl r a g t = st.isSome → (∀ b, st = some b → bg (fl r a g) t = b) →
    (hdT s = true → op r t = 0) → (hdT s = false → fl r a g t = true → cl r t = some 0) → ∀ n, t + tot s + g ≤ n → nts (fl r a g) n = nts (fl r a g) t ++ sgs a g s t st
  | [], t, st, _, hr, hf, hb, _, hc, n, hn => by
    obtain ⟨d, rfl⟩ : ∃ d, n = t + d := ⟨n - t, by simp [tot] at hn; omega⟩
    have hd : g ≤ d := by simp [tot] at hn; omega
    have cl' := fun k => closed_on ha hg (hc rfl) k fun u _ => by rw [hr]; rfl
    cases st with
    | none =>
      have := (nts_const (f := fl r a g) (t := t) (x := false) d fun u _ => by rw [(cl' u).2.2, hf]; rfl).1
      rw [this]
      simp [sgs]
    | some b =>
      have hf : fl r a g t = true := hf
      have := nts_fall (f := fl r a g) (t := t) (j := g) (d := d) hg hd (fun u hu => by rw [(cl' u).2.2, hf]; simp [hu]) (fun u hu _ => by rw [(cl' u).2.2]; simp; omega)
      rw [this, hb b rfl]
      rfl
  | (true, k) :: s, t, st, hA, hr, hf, hb, ho, _, n, hn => by
    obtain ⟨k1, _, _, hA'⟩ := hA
    obtain ⟨r1, r2⟩ := sgf_hd hr
    have op' := fun j (hj : j ≤ k) => open_on ha hg (ho rfl) j fun u hu => r1 u (by omega)
    have hn' : t + k + tot s + g ≤ n := by simp [tot] at hn; omega
    have hh : hdT s = true → op r (t + k) = 0 := fun z => by
      cases s with
      | nil => cases z
      | cons p q =>
        rename_i h3
        have := h3 (by simp)
        rw [this] at z
        cases z
    have hcl := (op' k (Nat.le_refl _)).2.1 k1
    cases st with
    | some b =>
      have hf : fl r a g t = true := hf
      obtain ⟨c1, c2⟩ := nts_const (f := fl r a g) (t := t) (x := true) k fun u hu => by rw [(op' u hu).2.2, hf]; rfl
      have ih := sgs_ok ha hg s (t + k) (some b) hA' r2 (by rw [(op' k (Nat.le_refl _)).2.2, hf]; rfl) (fun x hx => by rw [c2]; exact hb x hx) hh (fun _ _ => hcl) n hn'
      rw [ih, c1]
      rfl
    | none =>
      have hf : fl r a g t = false := hf
      by_cases c : a ≤ k
      · obtain ⟨c1, c2⟩ := nts_rise (f := fl r a g) (t := t) (j := a) (d := k) ha c (fun u hu => by rw [(op' u (by omega)).2.2, hf]; simp; omega) (fun u h1 h2 => by rw [(op' u h2).2.2]; simp [h1])
        have ih := sgs_ok ha hg s (t + k) (some (t + a)) hA' r2 (by rw [(op' k (Nat.le_refl _)).2.2]; simp [c]) (fun x hx => by rw [c2]; exact Option.some.inj hx) hh (fun _ _ => hcl) n hn'
        rw [ih, c1]
        simp [sgs, c]
      · obtain ⟨c1, c2⟩ := nts_const (f := fl r a g) (t := t) (x := false) k fun u hu => by rw [(op' u hu).2.2, hf]; simp; omega
        have ih := sgs_ok ha hg s (t + k) none hA' r2 (by rw [(op' k (Nat.le_refl _)).2.2, hf]; simp; omega) (fun x hx => by cases hx) hh (fun _ _ => hcl) n hn'
        rw [ih, c1]
        simp [sgs, c]
  | (false, k) :: s, t, st, hA, hr, hf, hb, _, hc, n, hn => by
    obtain ⟨k1, h2, h3, hA'⟩ := hA
    obtain ⟨r1, r2⟩ := sgf_hd hr
    have cl' := fun j (hj : j ≤ k) => closed_on ha hg (hc rfl) j fun u hu => r1 u (by omega)
    have hn' : t + k + tot s + g ≤ n := by simp [tot] at hn; omega
    have hs : hdT s = true := by
      have : s ≠ [] := fun z => by have := h2 z; cases this
      exact h3 this
    have ho := (cl' k (Nat.le_refl _)).1 k1
    have hx : hdT s = false → fl r a g (t + k) = true → cl r (t + k) = some 0 := fun z => by rw [hs] at z; cases z
    cases st with
    | none =>
      have hf : fl r a g t = false := hf
      obtain ⟨c1, c2⟩ := nts_const (f := fl r a g) (t := t) (x := false) k fun u hu => by rw [(cl' u hu).2.2, hf]; rfl
      have ih := sgs_ok ha hg s (t + k) none hA' r2 (by rw [(cl' k (Nat.le_refl _)).2.2, hf]; rfl) (fun x hx => by cases hx) (fun _ => ho) hx n hn'
      rw [ih, c1]
      rfl
    | some b =>
      have hf : fl r a g t = true := hf
      by_cases c : g ≤ k
      · have c1 := nts_fall (f := fl r a g) (t := t) (j := g) (d := k) hg c (fun u hu => by rw [(cl' u (by omega)).2.2, hf]; simp [hu]) (fun u h1 h2 => by rw [(cl' u h2).2.2]; simp; omega)
        have ih := sgs_ok ha hg s (t + k) none hA' r2 (by rw [(cl' k (Nat.le_refl _)).2.2]; simp; omega) (fun x hx => by cases hx) (fun _ => ho) hx n hn'
        rw [ih, c1, hb b rfl]
        simp [sgs, c]
      · obtain ⟨c1, c2⟩ := nts_const (f := fl r a g) (t := t) (x := true) k fun u hu => by rw [(cl' u hu).2.2, hf]; simp; omega
        have ih := sgs_ok ha hg s (t + k) (some b) hA' r2 (by rw [(cl' k (Nat.le_refl _)).2.2, hf]; simp; omega) (fun x hx => by rw [c2]; exact hb x hx) (fun _ => ho) hx n hn'
        rw [ih, c1]
        simp [sgs, c]
/-- the notes of a row of stretches -/
theorem nts_sg (ha : 1 ≤ a) (hg : 1 ≤ g) {s : List (Bool × Nat)} (hA : Alt s) (hr : ∀ u, r u = sgf s u) {n : Nat} (hn : tot s + g ≤ n) : nts (fl r a g) n = sgs a g s 0 none := by
  have := sgs_ok (r := r) ha hg s 0 none hA (fun u => by rw [Nat.zero_add]; exact hr u) (fl_0 ha) (fun b h => by cases h) (fun _ => rfl) (fun _ h => by rw [fl_0 ha] at h; cases h) n (by omega)
  rw [this]
  rfl
end
/-- the row's lines -/
def sgr : List (Bool × Nat) → List Int
  | [] => []
  | (b, k) :: s => List.replicate k (if b then 1 else 0) ++ sgr s
theorem sgr_len : ∀ s, (sgr s).length = tot s
  | [] => rfl
  | (b, k) :: s => by simp [sgr, tot, sgr_len s]
theorem sgr_get : ∀ (s : List (Bool × Nat)) (u : Nat), decide ((sgr s)[u]? = some 1) = sgf s u
  | [], u => by simp [sgr, sgf]
  | (b, k) :: s, u => by
    unfold sgr sgf
    by_cases c : u < k
    · rw [List.getElem?_append_left (by simpa using c)]
      simp only [List.getElem?_replicate, c, if_true]
      cases b <;> simp
    · rw [List.getElem?_append_right (by simpa using c), if_neg c]
      simpa using sgr_get s (u - k)
end Vo

set_option Elab.async false
set_option linter.all false
/-! XG: latches: a flag that some moments turn on and others turn off. -/
namespace La
/-- what one moment does: since when it sounds, the notes so far -/
def stp (B E : Int → Bool) (s : Option Int × List (Int × Int)) (m : Int) : Option Int × List (Int × Int) :=
  match s.1 with
  | none => if B m then (some m, s.2) else s
  | some b => if E m then (none, s.2 ++ [(b, m)]) else s
def lat (B E : Int → Bool) (l : List Int) : Option Int × List (Int × Int) := l.foldl (stp B E) (none, [])
def upT (lo : Int) (n : Nat) : List Int := (List.range n).map fun (k : Nat) => lo + (k : Int)
theorem upT_s (lo : Int) (n : Nat) : upT lo (n + 1) = upT lo n ++ [lo + (n : Int)] := by simp [upT, List.range_succ]
theorem upT_c (lo : Int) (n : Nat) : upT lo (n + 1) = lo :: upT (lo + 1) n := by
  simp only [upT, List.range_succ_eq_map, List.map_cons, List.map_map]
  congr 1
  · simp
  · apply List.map_congr_left
    intro k _
    simp only [Function.comp]
    omega
section
variable {B E : Int → Bool} (hd : ∀ m, ¬ (B m = true ∧ E m = true))
include hd
theorem stp_idem (s : Option Int × List (Int × Int)) (m : Int) : stp B E (stp B E s m) m = stp B E s m := by
  obtain ⟨o, l⟩ := s
  cases o with
  | none =>
    cases hb : B m with
    | true =>
      have he : E m = false := by cases h : E m with
        | false => rfl
        | true => exact absurd ⟨hb, h⟩ (hd m)
      simp [stp, hb, he]
    | false => simp [stp, hb]
  | some b =>
    cases he : E m with
    | true =>
      have hb : B m = false := by cases h : B m with
        | false => rfl
        | true => exact absurd ⟨h, he⟩ (hd m)
      simp [stp, hb, he]
    | false => simp [stp, he]
theorem fold_rep (m : Int) : ∀ (k : Nat) (s : Option Int × List (Int × Int)), 1 ≤ k → (List.replicate k m).foldl (stp B E) s = stp B E s m
  | 0, _, h => by omega
  | 1, s, _ => rfl
  | k + 2, s, _ => by
    rw [List.replicate_succ, List.foldl_cons, fold_rep m (k + 1) _ (by omega), stp_idem hd]
omit hd in
theorem stp_none {s : Option Int × List (Int × Int)} {m : Int} (h1 : B m = false) (h2 : E m = false) : stp B E s m = s := by
  obtain ⟨o, l⟩ := s
  cases o <;> simp [stp, h1, h2]
/-- a rising list of moments among others -/
theorem fold_sorted : ∀ (n : Nat) (lo : Int) (l : List Int) (s : Option Int × List (Int × Int)), l.Pairwise (· ≤ ·) → (∀ m, m ∈ l → lo ≤ m ∧ m < lo + n) →
    (∀ m, B m = true ∨ E m = true → lo ≤ m → m < lo + n → m ∈ l) → l.foldl (stp B E) s = (upT lo n).foldl (stp B E) s
  | 0, lo, l, s, _, h, _ => by
    cases l with
    | nil => rfl
    | cons a r => have := h a (.head _); omega
  | n + 1, lo, l, s, hp, h, hm => by
    rw [upT_c, List.foldl_cons]
    -- the moments at lo come first
    obtain ⟨k, r, e, hr⟩ : ∃ (k : Nat) (r : List Int), l = List.replicate k lo ++ r ∧ ∀ m, m ∈ r → lo < m := by
      clear hm
      induction l with
      | nil => exact ⟨0, [], rfl, fun m h => by cases h⟩
      | cons a t ih =>
        by_cases c : a = lo
        · obtain ⟨k, r, e, hr⟩ := ih (List.pairwise_cons.mp hp).2 fun m hm => h m (.tail _ hm)
          exact ⟨k + 1, r, by rw [List.replicate_succ, List.cons_append, ← e, c], hr⟩
        · refine ⟨0, a :: t, rfl, fun m hm => ?_⟩
          have ha := h a (.head _)
          rcases List.mem_cons.mp hm with rfl | hm
          · omega
          · have := (List.pairwise_cons.mp hp).1 m hm
            omega
    subst e
    have hp2 := (List.pairwise_append.mp hp).2.1
    rw [List.foldl_append]
    have e1 : (List.replicate k lo).foldl (stp B E) s = stp B E s lo := by
      by_cases c : k = 0
      · subst c
        have hn : lo ∉ r := fun z => by have := hr lo z; omega
        have nb : ¬ (B lo = true ∨ E lo = true) := fun z => by
          have := hm lo z (by omega) (by omega)
          simp at this
          exact hn this
        rw [stp_none (by cases q : B lo <;> simp [q] at nb ⊢) (by cases q : E lo <;> simp [q] at nb ⊢)]
        rfl
      · exact fold_rep hd lo k s (by omega)
    rw [e1]
    exact fold_sorted n (lo + 1) r _ hp2 (fun m hm' => by
      have a1 := hr m hm'
      have a2 := h m (List.mem_append_right _ hm')
      omega) (fun m hb h1 h2 => by
      have := hm m hb (by omega) (by omega)
      rcases List.mem_append.mp this with z | z
      · have := List.eq_of_mem_replicate z; omega
      · exact z)
end
/-- the notes of a flag as a latch leaves them -/
def up (p : Nat × Nat) : Int × Int := (p.1, p.2)
theorem lat_nts {F : Nat → Bool} {B E : Int → Bool} (h0 : F 0 = false) (hb0 : B 0 = false)
    (hB : ∀ t : Nat, B ((t + 1 : Nat) : Int) = true → F (t + 1) = true) (hE : ∀ t : Nat, E ((t + 1 : Nat) : Int) = true → F (t + 1) = false)
    (hr : ∀ t, F t = false → F (t + 1) = true → B ((t + 1 : Nat) : Int) = true) (hf : ∀ t, F t = true → F (t + 1) = false → E ((t + 1 : Nat) : Int) = true) :
    ∀ n, lat B E (upT 0 (n + 1)) = (if F n then some ((Vo.bg F n : Nat) : Int) else none, (Vo.nts F n).map up)
  | 0 => by
    simp [lat, upT, stp, hb0, h0, Vo.nts]
  | n + 1 => by
    have ih := lat_nts h0 hb0 hB hE hr hf n
    unfold lat at ih ⊢
    rw [upT_s, List.foldl_append, ih, List.foldl_cons, List.foldl_nil, show (0 : Int) + ((n + 1 : Nat) : Int) = ((n + 1 : Nat) : Int) by omega]
    have e : Vo.nts F (n + 1) = if F n && !F (n + 1) then Vo.nts F n ++ [(Vo.bg F n, n + 1)] else Vo.nts F n := rfl
    have e2 : Vo.bg F (n + 1) = if F (n + 1) && !F n then n + 1 else Vo.bg F n := rfl
    rw [e, e2]
    have pz : ((n + 1 : Nat) : Int) = (n : Int) + 1 := by omega
    have q1 := hB n
    have q2 := hE n
    have q3 := hr n
    have q4 := hf n
    rw [pz] at q1 q2 q3 q4 ⊢
    cases c : F n with
    | false =>
      cases d : F (n + 1) with
      | false =>
        have nb : B ((n : Int) + 1) = false := by
          cases z : B ((n : Int) + 1) with
          | false => rfl
          | true => rw [q1 z] at d; cases d
        simp [stp, nb]
      | true => simp [stp, q3 c d]
    | true =>
      cases d : F (n + 1) with
      | true =>
        have nb : E ((n : Int) + 1) = false := by
          cases z : E ((n : Int) + 1) with
          | false => rfl
          | true => rw [q2 z] at d; cases d
        simp [stp, nb]
      | false => simp [stp, q4 c d, up]
/-- two voices latch a third -/
structure Mates (F B E : Nat → Bool) : Prop where
  b : ∀ t, Vo.Rise B t → F t = true
  e : ∀ t, Vo.Fall E t → F t = false
  r : ∀ t, Vo.Rise F t → Vo.Rise B t
  f : ∀ t, Vo.Fall F t → Vo.Fall E t
theorem mates {r : Nat → Bool} {a g a' g' : Nat} (ha : 1 ≤ a') (hg : 1 ≤ g') (h1 : a' ≤ a) (h2 : g' ≤ g) : Mates (Vo.fl r a g) (Vo.fl r a g') (Vo.fl r a' g) := by
  have ev_rise : ∀ {x y t}, 1 ≤ x → Vo.Rise (Vo.fl r x y) t → x ≤ Vo.op r t := fun {x y t} hx ⟨p, q, s⟩ => by
    obtain ⟨u, rfl⟩ : ∃ u, t = u + 1 := ⟨t - 1, by omega⟩
    by_cases c : x ≤ Vo.op r (u + 1)
    · exact c
    · rw [show u + 1 - 1 = u by omega] at q
      rw [Vo.fl_keep0 q (by omega)] at s
      cases s
  have ev_fall : ∀ {x y t}, Vo.Fall (Vo.fl r x y) t → Vo.op r t < x ∧ Vo.cg y (Vo.cl r t) = true := fun {x y t} ⟨p, q, s⟩ => by
    obtain ⟨u, rfl⟩ : ∃ u, t = u + 1 := ⟨t - 1, by omega⟩
    rw [show u + 1 - 1 = u by omega] at q
    refine ⟨?_, ?_⟩
    · by_cases c : x ≤ Vo.op r (u + 1)
      · rw [Vo.fl_s, Vo.ev_some c] at s; cases s
      · omega
    · cases c : Vo.cg y (Vo.cl r (u + 1)) with
      | true => rfl
      | false => rw [Vo.fl_keep1 q c] at s; cases s
  have zero : ∀ t, Vo.cg g (Vo.cl r t) = true → Vo.op r t = 0 := fun t h => by
    cases t with
    | zero => rfl
    | succ t =>
      cases c : r t with
      | false => exact Vo.op_closed c
      | true => rw [Vo.cl_open c] at h; simp [Vo.cg] at h; omega
  have cgm : ∀ t, Vo.cg g (Vo.cl r t) = true → Vo.cg g' (Vo.cl r t) = true := fun t h => by
    cases c : Vo.cl r t with
    | none => rfl
    | some k => rw [c] at h; simp [Vo.cg] at h ⊢; omega
  -- B is below F, F below E
  have bf : ∀ t, Vo.fl r a g' t = true → Vo.fl r a g t = true := fun t => by
    induction t with
    | zero => intro h; rw [Vo.fl_0 (by omega)] at h; cases h
    | succ t ih =>
      intro h
      by_cases c : a ≤ Vo.op r (t + 1)
      · rw [Vo.fl_s, Vo.ev_some c]; rfl
      · cases d : Vo.cg g' (Vo.cl r (t + 1)) with
        | true => rw [Vo.fl_s, Vo.ev_off (by omega) d] at h; cases h
        | false =>
          rw [Vo.fl_s, Vo.ev_none (by omega) d] at h
          have d2 : Vo.cg g (Vo.cl r (t + 1)) = false := by
            cases z : Vo.cg g (Vo.cl r (t + 1)) with
            | false => rfl
            | true => rw [cgm _ z] at d; cases d
          exact Vo.fl_keep1 (ih h) d2
  have fe : ∀ t, Vo.fl r a g t = true → Vo.fl r a' g t = true := fun t => by
    induction t with
    | zero => intro h; rw [Vo.fl_0 (by omega)] at h; cases h
    | succ t ih =>
      intro h
      by_cases c : a' ≤ Vo.op r (t + 1)
      · rw [Vo.fl_s, Vo.ev_some c]; rfl
      · cases d : Vo.cg g (Vo.cl r (t + 1)) with
        | true => rw [Vo.fl_s, Vo.ev_off (by omega) d] at h; cases h
        | false =>
          rw [Vo.fl_s, Vo.ev_none (by omega) d] at h
          exact Vo.fl_keep1 (ih h) d
  refine ⟨fun t h => ?_, fun t h => ?_, fun t h => ?_, fun t h => ?_⟩
  · exact bf t h.2.2
  · cases c : Vo.fl r a g t with
    | false => rfl
    | true => have := h.2.2; rw [fe t c] at this; cases this
  · have o := ev_rise (by omega) h
    obtain ⟨p, q, s⟩ := h
    obtain ⟨u, rfl⟩ : ∃ u, t = u + 1 := ⟨t - 1, by omega⟩
    refine ⟨p, ?_, by rw [Vo.fl_s, Vo.ev_some o]; rfl⟩
    cases c : Vo.fl r a g' (u + 1 - 1) with
    | false => rfl
    | true => rw [bf _ c] at q; cases q
  · obtain ⟨o, d⟩ := ev_fall h
    obtain ⟨p, q, s⟩ := h
    obtain ⟨u, rfl⟩ : ∃ u, t = u + 1 := ⟨t - 1, by omega⟩
    refine ⟨p, fe _ q, ?_⟩
    rw [Vo.fl_s, Vo.ev_off (by have := zero _ d; omega) d]
    rfl
/-- the moments at which the notes of a flag begin, and end -/
def bgs (f : Nat → Bool) (n : Nat) : List Int := (Vo.nts f n).map fun p => (p.1 : Int)
def ens (f : Nat → Bool) (n : Nat) : List Int := (Vo.nts f n).map fun p => (p.2 : Int)
theorem mem_bgs {f : Nat → Bool} {n : Nat} (h0 : f 0 = false) (hn : ∀ u, n ≤ u → f u = false) {m : Int} : m ∈ bgs f n ↔ ∃ t : Nat, m = t ∧ Vo.Rise f t := by
  unfold bgs
  rw [List.mem_map]
  constructor
  · rintro ⟨p, hp, rfl⟩
    exact ⟨p.1, rfl, (Vo.rise_iff h0 hn).mpr ⟨p, hp, rfl⟩⟩
  · rintro ⟨t, rfl, h⟩
    obtain ⟨p, hp, e⟩ := (Vo.rise_iff h0 hn).mp h
    exact ⟨p, hp, by rw [e]⟩
theorem mem_ens {f : Nat → Bool} {n : Nat} (h0 : f 0 = false) (hn : ∀ u, n ≤ u → f u = false) {m : Int} : m ∈ ens f n ↔ ∃ t : Nat, m = t ∧ Vo.Fall f t := by
  unfold ens
  rw [List.mem_map]
  constructor
  · rintro ⟨p, hp, rfl⟩
    exact ⟨p.2, rfl, (Vo.fall_iff h0 hn).mpr ⟨p, hp, rfl⟩⟩
  · rintro ⟨t, rfl, h⟩
    obtain ⟨p, hp, e⟩ := (Vo.fall_iff h0 hn).mp h
    exact ⟨p, hp, by rw [e]⟩
/-- the latch of two mates gives the notes: lists with the moments of the one's beginnings and the other's ends -/
theorem latch_mates {F B E : Nat → Bool} (M : Mates F B E) (f0 : F 0 = false) {nb ne n : Nat} (b0 : B 0 = false) (e0 : E 0 = false) (hb : ∀ u, nb ≤ u → B u = false) (he : ∀ u, ne ≤ u → E u = false) (hF : ∀ u, n ≤ u → F u = false)
    {bs es : List Int} (mb : ∀ m, m ∈ bs ↔ m ∈ bgs B nb) (me : ∀ m, m ∈ es ↔ m ∈ ens E ne) :
    (∀ m, ¬ (m ∈ bs ∧ m ∈ es)) ∧ ∀ k, n ≤ k → lat (fun m => decide (m ∈ bs)) (fun m => decide (m ∈ es)) (upT 0 (k + 1)) = (none, (Vo.nts F n).map up) := by
  have B1 : ∀ m, m ∈ bs ↔ ∃ t : Nat, m = t ∧ Vo.Rise B t := fun m => by rw [mb, mem_bgs b0 hb]
  have E1 : ∀ m, m ∈ es ↔ ∃ t : Nat, m = t ∧ Vo.Fall E t := fun m => by rw [me, mem_ens e0 he]
  refine ⟨fun m ⟨h, h'⟩ => ?_, fun k hk => ?_⟩
  · obtain ⟨t, e1, r1⟩ := (B1 m).mp h
    obtain ⟨u, e2, r2⟩ := (E1 _).mp h'
    have e : t = u := by omega
    subst e
    have := M.b t r1
    rw [M.e t r2] at this
    cases this
  · have key := lat_nts (F := F) (B := fun m => decide (m ∈ bs)) (E := fun m => decide (m ∈ es)) f0 ?_ ?_ ?_ ?_ ?_ k
    · rw [key, hF k hk]
      have : ∀ d, Vo.nts F (n + d) = Vo.nts F n := fun d => by
        induction d with
        | zero => rfl
        | succ d ih =>
          rw [← Nat.add_assoc]
          have e : Vo.nts F (n + d + 1) = if F (n + d) && !F (n + d + 1) then Vo.nts F (n + d) ++ [(Vo.bg F (n + d), n + d + 1)] else Vo.nts F (n + d) := rfl
          rw [e, hF (n + d) (by omega), ih]
          rfl
      obtain ⟨d, rfl⟩ : ∃ d, k = n + d := ⟨k - n, by omega⟩
      rw [this]
      rfl
    · refine decide_eq_false fun h => ?_
      obtain ⟨t, e, h⟩ := (B1 _).mp h
      have := h.1
      omega
    · intro t h
      obtain ⟨u, e, h⟩ := (B1 _).mp (of_decide_eq_true h)
      have e : t + 1 = u := by omega
      rw [e]
      exact M.b u h
    · intro t h
      obtain ⟨u, e, h⟩ := (E1 _).mp (of_decide_eq_true h)
      have e : t + 1 = u := by omega
      rw [e]
      exact M.e u h
    · intro t h1 h2
      exact decide_eq_true ((B1 _).mpr ⟨t + 1, rfl, M.r _ ⟨by omega, h1, h2⟩⟩)
    · intro t h1 h2
      exact decide_eq_true ((E1 _).mpr ⟨t + 1, rfl, M.f _ ⟨by omega, h1, h2⟩⟩)
end La

set_option Elab.async false
set_option linter.all false
set_option maxRecDepth 100000
set_option maxHeartbeats 0
namespace LW
open PySem PySem.Spec PyProof.Rows L2 VS
abbrev topS (i : Nat) : Stmt := PySem.Challenge.pw_everyorgan_k44_whole_which_sets_of_heari.main.body.getD i (.Pass ⟨0, 0, 0, 0⟩)
/-- _wall(k); k -/
def f0 : Fn := ⟨[false], 1, [.whl (.bl true) [.pass]]⟩
/-- is_whole(value); value -/
def f1 : Fn := ⟨[false], 1, [.ret (.and [.isI (.var 0) .int, .not (.isI (.var 0) .bool)])]⟩
/-- check_most(value, most, what); value, most, what -/
def f2 : Fn := ⟨[false, false, false], 3, [.ife (.and [.call 1 [.var 0], .cmp .gt (.var 0) (.var 1)]) [.raise 1 (.var 2)] []]⟩
/-- check_row(row, most); row, most -/
def f3 : Fn := ⟨[false, false], 2, [.ife (.cmp .gt (.bi .len [.var 0]) (.var 1)) [.raise 1 (.str "lines")] [],
    .expr (.call 4 [.var 0])]⟩
/-- check_items(row); row, line -/
def f4 : Fn := ⟨[false], 2, [.ife (.cmp .eq (.bi .len [.var 0]) (.int 0)) [.raise 2 (.str "empty")] [],
    .forR 1 [.bi .len [.var 0]] [.ife (.or [.not (.call 1 [.ix (.var 0) (.var 1)]), .cmp .nin (.ix (.var 0) (.var 1)) (.tup [.int 0, .int 1])]) [.raise 2 (.var 1)] []]]⟩
/-- is_of_box(organ, box); organ, box -/
def f5 : Fn := ⟨[false, false], 2, [.ret (.and [.chain .le .le (.fld (.var 1) "a0") (.ix (.var 0) (.int 0)) (.fld (.var 1) "a1"), .chain .le .le (.fld (.var 1) "g0") (.ix (.var 0) (.int 1)) (.fld (.var 1) "g1")])]⟩
/-- two_ends(a); a -/
def f6 : Fn := ⟨[false], 1, [.ife (.cmp .eq (.var 0) (.int 2)) [.ret (.tup [.lst [.int 1, .int 1, .int 0, .int 1], .lst [.int 1, .int 0, .int 0, .int 1]])] [],
    .ret (.tup [.bin .add (.bin .add (.bin .mul (.lst [.int 1]) (.var 0)) (.lst [.int 0])) (.bin .mul (.lst [.int 1]) (.bin .sub (.var 0) (.int 2))), .bin .add (.bin .add (.bin .mul (.lst [.int 1]) (.bin .sub (.var 0) (.int 1))) (.lst [.int 0])) (.bin .mul (.lst [.int 1]) (.bin .sub (.var 0) (.int 1)))])]⟩
/-- check_organs(box, organs); box, organs, organ, place -/
def f7 : Fn := ⟨[false, false], 4, [.forL false [2] (.var 1) [.expr (.call 2 [.bi .max1 [.lst [.ix (.var 2) (.int 0), .ix (.var 2) (.int 1)]], .int 60, .str "number"])],
    .expr (.call 2 [.bi .len [.var 1], .int 16, .str "organs"]),
    .forR 3 [.bi .len [.var 1]] [.ife (.not (.call 5 [.ix (.var 1) (.var 3), .var 0])) [.raise 4 (.var 3)] []]]⟩
/-- hearing_foe(box, organs); box, organs, late, ahead, more, less, one -/
def f8 : Fn := ⟨[false, false], 7, [.expr (.call 7 [.var 0, .var 1]),
    .set 2 (.bin .mul (.lst [.int 1]) (.fld (.var 0) "a1")),
    .ife (.cmp .eq (.compL [6] false [6] (.var 1) [.and [.cmp .eq (.ix (.var 6) (.int 0)) (.fld (.var 0) "a0"), .cmp .eq (.ix (.var 6) (.int 1)) (.fld (.var 0) "g0")]] (.var 6)) (.lst [])) [.set 3 (.bin .add (.var 2) (.bin .mul (.lst [.int 0]) (.fld (.var 0) "g0"))),
    .setT [4, 5] (.call 6 [.fld (.var 0) "a0"]),
    .ret (.tup [.str "fooled", .str "quick", .bin .add (.var 3) (.var 5), .bin .add (.var 3) (.var 4)])] [],
    .ife (.cmp .eq (.compL [6] false [6] (.var 1) [.cmp .eq (.ix (.var 6) (.int 0)) (.fld (.var 0) "a1")] (.var 6)) (.lst [])) [.ret (.tup [.str "fooled", .str "begin", .bin .add (.var 2) (.lst [.int 1]), .bin .add (.bin .mul (.lst [.int 1]) (.bin .sub (.fld (.var 0) "a1") (.int 1))) (.lst [.int 0, .int 1])])] [],
    .ife (.cmp .eq (.compL [6] false [6] (.var 1) [.cmp .eq (.ix (.var 6) (.int 1)) (.fld (.var 0) "g1")] (.var 6)) (.lst [])) [.ret (.tup [.str "fooled", .str "end", .bin .add (.bin .add (.var 2) (.bin .mul (.lst [.int 0]) (.bin .add (.fld (.var 0) "g1") (.int 1)))) (.var 2), .bin .add (.bin .add (.bin .add (.var 2) (.bin .mul (.lst [.int 0]) (.bin .sub (.fld (.var 0) "g1") (.int 1)))) (.lst [.int 1, .int 0])) (.var 2)])] [],
    .ret (.tup [.str "enough"])]⟩
/-- runs_of(row, past); row, past, runs, open_run, closed_run, moment -/
def f9 : Fn := ⟨[false, false], 6, [.set 2 (.lst [.tup [.int 0, .non]]),
    .set 3 (.int 0),
    .set 4 .non,
    .forR 5 [.int 1, .bin .add (.bin .add (.bi .len [.var 0]) (.var 1)) (.int 1)] [.ife (.and [.cmp .le (.var 5) (.bi .len [.var 0]), .cmp .eq (.ix (.var 0) (.bin .sub (.var 5) (.int 1))) (.int 1)]) [.aug 3 .add (.int 1),
    .set 4 (.int 0)] [.set 3 (.int 0),
    .ife (.isN true (.var 4)) [.aug 4 .add (.int 1)] []],
    .app 2 (.tup [.var 3, .var 4])],
    .ret (.mv 2)]⟩
/-- flags_of(row, a, g, past); row, a, g, past, flags, flag, open_run, closed_run -/
def f10 : Fn := ⟨[false, false, false, false], 8, [.set 4 (.lst []),
    .set 5 (.int 0),
    .forL true [6, 7] (.call 9 [.var 0, .var 3]) [.ife (.cmp .ge (.var 6) (.var 1)) [.set 5 (.int 1)] [.ife (.or [.isN false (.var 7), .cmp .ge (.var 7) (.var 2)]) [.set 5 (.int 0)] []],
    .app 4 (.var 5)],
    .ret (.mv 4)]⟩
/-- notes_of_flags(flags); flags, notes, began, moment -/
def f11 : Fn := ⟨[false], 4, [.set 1 (.lst []),
    .set 2 (.int 0),
    .forR 3 [.int 1, .bi .len [.var 0]] [.ife (.cmp .gt (.ix (.var 0) (.var 3)) (.ix (.var 0) (.bin .sub (.var 3) (.int 1)))) [.set 2 (.var 3)] [],
    .ife (.cmp .lt (.ix (.var 0) (.var 3)) (.ix (.var 0) (.bin .sub (.var 3) (.int 1)))) [.app 1 (.tup [.var 2, .var 3])] []],
    .ret (.mv 1)]⟩
/-- steady_notes(row, a, g); row, a, g -/
def f12 : Fn := ⟨[false, false, false], 3, [.ife (.cmp .le (.bi .len [.var 0]) (.int 400)) [.expr (.call 2 [.bi .max1 [.lst [.var 1, .var 2]], .int 60, .str "number"])] [],
    .expr (.call 3 [.var 0, .int 400]),
    .ife (.cmp .lt (.var 1) (.int 2)) [.raise 3 (.str "begin")] [],
    .ife (.cmp .lt (.var 2) (.int 2)) [.raise 3 (.str "end")] [],
    .ret (.call 11 [.call 10 [.var 0, .var 1, .var 2, .var 2]])]⟩
/-- spread_of(row, box); row, box, quick, slow, found, place -/
def f13 : Fn := ⟨[false, false], 6, [.set 2 (.call 12 [.var 0, .fld (.var 1) "a0", .fld (.var 1) "g0"]),
    .set 3 (.call 12 [.var 0, .fld (.var 1) "a1", .fld (.var 1) "g1"]),
    .ife (.cmp .ne (.bi .len [.var 2]) (.bi .len [.var 3])) [.ret (.tup [.str "unlike", .bi .len [.var 3], .bi .len [.var 2]])] [],
    .set 4 (.lst []),
    .forR 5 [.bi .len [.var 2]] [.app 4 (.tup [.ix (.ix (.var 2) (.var 5)) (.int 0), .ix (.ix (.var 3) (.var 5)) (.int 0), .ix (.ix (.var 2) (.var 5)) (.int 1), .ix (.ix (.var 3) (.var 5)) (.int 1)])],
    .ret (.tup [.str "same", .var 4])]⟩
/-- latch_notes(begins, ends); begins, ends, both, found, begun, moment -/
def f14 : Fn := ⟨[false, false], 6, [.set 2 (.compL [5] false [5] (.var 0) [.cmp .inn (.var 5) (.var 1)] (.var 5)),
    .ife (.cmp .ne (.var 2) (.lst [])) [.raise 5 (.bi .min1 [.var 2])] [],
    .set 3 (.lst []),
    .set 4 .non,
    .forL false [5] (.bi .sorted [.bin .add (.bi .list [.var 0]) (.bi .list [.var 1])]) [.ife (.and [.isN false (.var 4), .cmp .inn (.var 5) (.var 0)]) [.set 4 (.var 5)] [.ife (.and [.isN true (.var 4), .cmp .inn (.var 5) (.var 1)]) [.app 3 (.tup [.var 4, .var 5]),
    .set 4 .non] []]],
    .ret (.mv 3)]⟩
/-- _law_purse(script, at); script, at, cell, size, one -/
def f15 : Fn := ⟨[false, false], 5, [.set 2 (.ife (.cmp .lt (.var 1) (.bi .len [.var 0])) (.bi .int [.ix (.var 0) (.var 1)]) (.bin .mul (.int 31) (.bi .sum [.compL [4] false [4] (.slc (.var 0) [] [.int 4]) [] (.bi .int [.var 4])]))),
    .set 3 (.bin .add (.bin .mul (.int 2) (.bi .abs [.var 2])) (.ife (.cmp .lt (.var 2) (.int 0)) (.int 1) (.int 0))),
    .ret (.lst [.ife (.cmp .ge (.var 3) (.bin .pow (.int 10) (.int 18))) (.var 3) (.int 0), .bin .mod (.bi .int [.bin .add (.bin .add (.var 3) (.bin .mul (.var 1) (.int 104729))) (.int 12345)]) (.int 2147483629), .var 1])]⟩
/-- _law_draw(purse, many); purse, many, found -/
def f16 : Fn := ⟨[true, false], 3, [.ife (.cmp .gt (.ix (.var 0) (.int 0)) (.int 0)) [.set 2 (.bin .mod (.bi .int [.ix (.var 0) (.int 0)]) (.var 1)),
    .setIx 0 (.int 0) (.bin .fdiv (.ix (.var 0) (.int 0)) (.var 1)),
    .ret (.mv 2)] [],
    .augIx 0 (.int 2) .add (.int 1),
    .setIx 0 (.int 1) (.bin .mod (.bi .int [.bin .add (.bin .mul (.ix (.var 0) (.int 1)) (.int 48271)) (.bin .mul (.ix (.var 0) (.int 2)) (.int 69621))]) (.int 2147483647)),
    .ret (.bin .mod (.bin .fdiv (.bin .mod (.bi .int [.bin .add (.bin .mul (.ix (.var 0) (.int 1)) (.int 16807)) (.bin .mul (.ix (.var 0) (.int 2)) (.int 7919))]) (.int 2147483629)) (.int 8)) (.var 1))]⟩
/-- _law_mix(purse, things); purse, things, left, mixed, turn -/
def f17 : Fn := ⟨[true, false], 5, [.set 2 (.bi .list [.var 1]),
    .set 3 (.lst []),
    .forR 4 [.bi .len [.var 1]] [.app 3 (.popAt 2 (.call 16 [.var 0, .bi .len [.var 2]]))],
    .ret (.mv 3)]⟩
/-- _law_runs(row, past); row, past, runs, line, opened, closed -/
def f18 : Fn := ⟨[false, false], 6, [.set 2 (.lst [.tup [.int 0, .int 1000000000]]),
    .forR 3 [.bin .add (.bi .len [.var 0]) (.var 1)] [.setT [4, 5] (.ix (.var 2) (.var 3)),
    .ife (.and [.cmp .lt (.var 3) (.bi .len [.var 0]), .cmp .eq (.ix (.var 0) (.var 3)) (.int 1)]) [.app 2 (.tup [.bin .add (.var 4) (.int 1), .int 0])] [.app 2 (.tup [.int 0, .bin .add (.var 5) (.int 1)])]],
    .ret (.mv 2)]⟩
/-- _law_flags(row, a, g, past); row, a, g, past, flags, flag, opened, closed -/
def f19 : Fn := ⟨[false, false, false, false], 8, [.set 4 (.lst []),
    .set 5 (.int 0),
    .forL true [6, 7] (.call 18 [.var 0, .var 3]) [.ife (.cmp .ge (.var 6) (.var 1)) [.set 5 (.int 1)] [.ife (.cmp .ge (.var 7) (.var 2)) [.set 5 (.int 0)] []],
    .app 4 (.var 5)],
    .ret (.mv 4)]⟩
/-- _law_notes(flags, first); flags, first, notes, begin, at, before -/
def f20 : Fn := ⟨[false, false], 6, [.set 2 (.lst []),
    .set 3 (.var 1),
    .forR 4 [.bi .len [.var 0]] [.set 5 (.ife (.cmp .gt (.var 4) (.int 0)) (.ix (.var 0) (.bin .sub (.var 4) (.int 1))) (.int 0)),
    .ife (.cmp .gt (.ix (.var 0) (.var 4)) (.var 5)) [.set 3 (.bin .add (.var 1) (.var 4))] [],
    .ife (.cmp .lt (.ix (.var 0) (.var 4)) (.var 5)) [.app 2 (.tup [.var 3, .bin .add (.var 1) (.var 4)])] []],
    .ret (.mv 2)]⟩
/-- _law_steady(row, a, g); row, a, g -/
def f21 : Fn := ⟨[false, false, false], 3, [.ret (.call 20 [.call 19 [.var 0, .var 1, .var 2, .var 2], .int 0])]⟩
/-- _law_spread(row, box); row, box, quick, slow, at -/
def f22 : Fn := ⟨[false, false], 5, [.set 2 (.call 21 [.var 0, .ix (.var 1) (.int 0), .ix (.var 1) (.int 2)]),
    .set 3 (.call 21 [.var 0, .ix (.var 1) (.int 1), .ix (.var 1) (.int 3)]),
    .ife (.cmp .ne (.bi .len [.var 2]) (.bi .len [.var 3])) [.ret (.tup [.str "unlike", .bi .len [.var 3], .bi .len [.var 2]])] [],
    .ret (.tup [.str "same", .compR [4] 4 [.bi .len [.var 3]] [] (.tup [.ix (.ix (.var 2) (.var 4)) (.int 0), .ix (.ix (.var 3) (.var 4)) (.int 0), .ix (.ix (.var 2) (.var 4)) (.int 1), .ix (.ix (.var 3) (.var 4)) (.int 1)])])]⟩
/-- _law_latch(begins, ends); begins, ends, notes, sounding, begin, moment -/
def f23 : Fn := ⟨[false, false], 6, [.set 2 (.lst []),
    .set 3 (.int 0),
    .set 4 (.int 0),
    .forR 5 [.bin .add (.bi .max1 [.bin .add (.bin .add (.bi .list [.var 0]) (.bi .list [.var 1])) (.lst [.int 0])]) (.int 1)] [.ife (.and [.cmp .inn (.var 5) (.var 0), .cmp .eq (.var 3) (.int 0)]) [.set 3 (.int 1),
    .set 4 (.var 5)] [.ife (.and [.cmp .inn (.var 5) (.var 1), .cmp .eq (.var 3) (.int 1)]) [.set 3 (.int 0),
    .app 2 (.tup [.var 4, .var 5])] []]],
    .ret (.mv 2)]⟩
/-- _law_box_organs(box); box, organs, a, g -/
def f24 : Fn := ⟨[false], 4, [.set 1 (.lst []),
    .forR 2 [.ix (.var 0) (.int 0), .bin .add (.ix (.var 0) (.int 1)) (.int 1)] [.forR 3 [.ix (.var 0) (.int 2), .bin .add (.ix (.var 0) (.int 3)) (.int 1)] [.app 1 (.tup [.var 2, .var 3])]],
    .ret (.mv 1)]⟩
/-- _law_box(box); box -/
def f25 : Fn := ⟨[false], 1, [.ret (.mk 6 [.ix (.var 0) (.int 0), .ix (.var 0) (.int 1), .ix (.var 0) (.int 2), .ix (.var 0) (.int 3)])]⟩
/-- _law_draw_row(purse, many, wide); purse, many, wide, row, sort, turn -/
def f26 : Fn := ⟨[true, false, false], 6, [.set 3 (.lst []),
    .set 4 (.call 16 [.var 0, .int 2]),
    .forR 5 [.var 1] [.set 3 (.bin .add (.sh 3) (.bin .mul (.lst [.var 4]) (.bin .add (.int 1) (.call 16 [.var 0, .var 2])))),
    .set 4 (.bin .sub (.int 1) (.var 4))],
    .ret (.mv 3)]⟩
/-- _law_note_lines(purse, box); purse, box, row, turn -/
def f27 : Fn := ⟨[true, false], 4, [.set 2 (.lst []),
    .forR 3 [.call 16 [.var 0, .int 3]] [.set 2 (.bin .add (.bin .add (.sh 2) (.bin .mul (.lst [.int 1]) (.bin .add (.int 1) (.call 16 [.var 0, .bin .sub (.ix (.var 1) (.int 1)) (.int 1)])))) (.bin .mul (.lst [.int 0]) (.bin .add (.int 1) (.call 16 [.var 0, .bin .sub (.ix (.var 1) (.int 2)) (.int 1)]))))],
    .set 2 (.bin .add (.sh 2) (.bin .mul (.lst [.int 1]) (.bin .add (.ix (.var 1) (.int 1)) (.call 16 [.var 0, .int 3])))),
    .ife (.cmp .eq (.call 16 [.var 0, .int 2]) (.int 0)) [.set 2 (.bin .add (.bin .add (.sh 2) (.bin .mul (.lst [.int 0]) (.bin .add (.int 1) (.call 16 [.var 0, .bin .sub (.ix (.var 1) (.int 2)) (.int 1)])))) (.bin .mul (.lst [.int 1]) (.bin .add (.int 1) (.call 16 [.var 0, .int 4]))))] [],
    .ife (.and [.cmp .lt (.ix (.var 1) (.int 2)) (.ix (.var 1) (.int 3)), .cmp .eq (.call 16 [.var 0, .int 2]) (.int 0)]) [.set 2 (.bin .add (.bin .add (.sh 2) (.bin .mul (.lst [.int 0]) (.bin .add (.ix (.var 1) (.int 2)) (.call 16 [.var 0, .bin .sub (.ix (.var 1) (.int 3)) (.ix (.var 1) (.int 2))])))) (.bin .mul (.lst [.int 1]) (.bin .add (.int 1) (.call 16 [.var 0, .bin .sub (.ix (.var 1) (.int 0)) (.int 1)]))))] [],
    .ret (.mv 2)]⟩
/-- _law_rest_lines(purse, box); purse, box, row -/
def f28 : Fn := ⟨[true, false], 3, [.set 2 (.bin .mul (.lst [.int 0]) (.bin .add (.ix (.var 1) (.int 3)) (.call 16 [.var 0, .int 3]))),
    .ife (.cmp .eq (.call 16 [.var 0, .int 2]) (.int 0)) [.set 2 (.bin .add (.bin .add (.sh 2) (.bin .mul (.lst [.int 1]) (.bin .add (.int 1) (.call 16 [.var 0, .bin .sub (.ix (.var 1) (.int 0)) (.int 1)])))) (.bin .mul (.lst [.int 0]) (.bin .add (.ix (.var 1) (.int 3)) (.call 16 [.var 0, .int 2]))))] [],
    .ret (.mv 2)]⟩
/-- _law_same_row(purse, box, many); purse, box, many, row, turn -/
def f29 : Fn := ⟨[true, false, false], 5, [.set 3 (.bin .mul (.lst [.int 0]) (.call 16 [.var 0, .int 3])),
    .ife (.cmp .eq (.var 2) (.int 0)) [.ret (.bin .add (.sh 3) (.call 28 [.var 0, .var 1]))] [],
    .forR 4 [.var 2] [.set 3 (.bin .add (.sh 3) (.call 27 [.var 0, .var 1])),
    .ife (.or [.cmp .lt (.var 4) (.bin .sub (.var 2) (.int 1)), .cmp .eq (.call 16 [.var 0, .int 2]) (.int 0)]) [.set 3 (.bin .add (.sh 3) (.call 28 [.var 0, .var 1]))] []],
    .ret (.mv 3)]⟩
/-- _law_unlike_row(purse, box, row); purse, box, row, gap, hole -/
def f30 : Fn := ⟨[true, false, false], 5, [.ife (.and [.cmp .lt (.ix (.var 1) (.int 0)) (.ix (.var 1) (.int 1)), .or [.cmp .eq (.ix (.var 1) (.int 2)) (.ix (.var 1) (.int 3)), .cmp .eq (.call 16 [.var 0, .int 2]) (.int 0)]]) [.set 4 (.bin .mul (.lst [.int 1]) (.bin .add (.ix (.var 1) (.int 0)) (.call 16 [.var 0, .bin .sub (.ix (.var 1) (.int 1)) (.ix (.var 1) (.int 0))]))),
    .ret (.ife (.cmp .eq (.call 16 [.var 0, .int 2]) (.int 0)) (.bin .add (.bin .add (.var 4) (.bin .mul (.lst [.int 0]) (.ix (.var 1) (.int 3)))) (.var 2)) (.bin .add (.bin .add (.var 2) (.bin .mul (.lst [.int 0]) (.ix (.var 1) (.int 3)))) (.var 4)))] [],
    .ife (.cmp .eq (.ix (.var 1) (.int 2)) (.ix (.var 1) (.int 3))) [.ret (.var 2)] [],
    .set 3 (.bin .add (.bin .add (.bin .mul (.lst [.int 1]) (.ix (.var 1) (.int 1))) (.bin .mul (.lst [.int 0]) (.bin .add (.ix (.var 1) (.int 2)) (.call 16 [.var 0, .bin .sub (.ix (.var 1) (.int 3)) (.ix (.var 1) (.int 2))])))) (.bin .mul (.lst [.int 1]) (.ix (.var 1) (.int 1)))),
    .ret (.ife (.cmp .eq (.call 16 [.var 0, .int 2]) (.int 0)) (.bin .add (.bin .add (.var 3) (.bin .mul (.lst [.int 0]) (.ix (.var 1) (.int 3)))) (.var 2)) (.bin .add (.bin .add (.var 2) (.bin .mul (.lst [.int 0]) (.ix (.var 1) (.int 3)))) (.var 3)))]⟩
/-- _law_lack(box, organs); box, organs, one -/
def f31 : Fn := ⟨[false, false], 3, [.ife (.cmp .nin (.tup [.ix (.var 0) (.int 0), .ix (.var 0) (.int 2)]) (.var 1)) [.ret (.str "quick")] [],
    .ife (.cmp .eq (.compL [2] false [2] (.var 1) [.cmp .eq (.ix (.var 2) (.int 0)) (.ix (.var 0) (.int 1))] (.var 2)) (.lst [])) [.ret (.str "begin")] [],
    .ret (.ife (.cmp .eq (.compL [2] false [2] (.var 1) [.cmp .eq (.ix (.var 2) (.int 1)) (.ix (.var 0) (.int 3))] (.var 2)) (.lst [])) (.str "end") (.str ""))]⟩
/-- _law_lacking(box, lack); box, lack, organs, one -/
def f32 : Fn := ⟨[false, false], 4, [.set 2 (.call 24 [.var 0]),
    .ife (.cmp .eq (.var 1) (.str "quick")) [.ret (.lst [.tup [.ix (.var 0) (.int 0), .ix (.var 0) (.int 2)]])] [],
    .ret (.compL [3] false [3] (.var 2) [.ife (.cmp .eq (.var 1) (.str "begin")) (.cmp .eq (.ix (.var 3) (.int 0)) (.ix (.var 0) (.int 1))) (.cmp .eq (.ix (.var 3) (.int 1)) (.ix (.var 0) (.int 3)))] (.var 3))]⟩
/-- _law_rows_part(box, lack, right, wrong); box, lack, right, wrong, organs, made, own, told, spread, many, one -/
def f33 : Fn := ⟨[false, false, false, false], 11, [.set 4 (.call 24 [.var 0]),
    .set 5 (.call 25 [.var 0]),
    .set 6 (.compL [10] false [10] (.var 4) [.cmp .ne (.call 21 [.var 2, .ix (.var 10) (.int 0), .ix (.var 10) (.int 1)]) (.call 21 [.var 3, .ix (.var 10) (.int 0), .ix (.var 10) (.int 1)])] (.var 10)),
    .set 7 (.compL [10] false [10] (.var 4) [.cmp .ne (.call 12 [.var 2, .ix (.var 10) (.int 0), .ix (.var 10) (.int 1)]) (.call 12 [.var 3, .ix (.var 10) (.int 0), .ix (.var 10) (.int 1)])] (.var 10)),
    .ife (.or [.cmp .ne (.var 6) (.call 32 [.var 0, .var 1]), .cmp .ne (.var 7) (.var 6), .cmp .ne (.ix (.call 13 [.var 2, .var 5]) (.int 0)) (.str "same")]) [.ret (.bl false)] [],
    .set 8 (.call 13 [.var 3, .var 5]),
    .set 9 (.bi .len [.call 21 [.var 2, .ix (.var 0) (.int 0), .ix (.var 0) (.int 2)]]),
    .ret (.and [.cmp .eq (.var 8) (.call 22 [.var 3, .var 0]), .not (.and [.cmp .eq (.ix (.var 8) (.int 0)) (.str "same"), .cmp .eq (.bi .len [.ix (.var 8) (.int 1)]) (.var 9)])])]⟩
/-- _law_set_of(organs, number); organs, number, found, left, organ -/
def f34 : Fn := ⟨[false, false], 5, [.set 2 (.lst []),
    .set 3 (.var 1),
    .forL false [4] (.var 0) [.ife (.cmp .eq (.bin .mod (.bi .int [.var 3]) (.int 2)) (.int 1)) [.app 2 (.var 4)] [],
    .set 3 (.bin .fdiv (.var 3) (.int 2))],
    .ret (.mv 2)]⟩
/-- _law_slow_known(box, chosen, heard, slow); box, chosen, heard, slow, begins, ends, note, one -/
def f35 : Fn := ⟨[false, false, false, false], 8, [.set 4 (.compL [6] false [6] (.ix (.var 2) (.ix (.compL [7] false [7] (.var 1) [.cmp .eq (.ix (.var 7) (.int 0)) (.ix (.var 0) (.int 1))] (.var 7)) (.int 0))) [] (.ix (.var 6) (.int 0))),
    .set 5 (.compL [6] false [6] (.ix (.var 2) (.ix (.compL [7] false [7] (.var 1) [.cmp .eq (.ix (.var 7) (.int 1)) (.ix (.var 0) (.int 3))] (.var 7)) (.int 0))) [] (.ix (.var 6) (.int 1))),
    .ret (.and [.cmp .eq (.call 23 [.var 4, .var 5]) (.var 3), .cmp .eq (.call 14 [.bi .list [.var 4], .bi .list [.var 5]]) (.var 3)])]⟩
/-- _law_all_sets(purse, box, rows); purse, box, rows, made, organs, tables, row, words, number, heard, organ, chosen, told, lack -/
def f36 : Fn := ⟨[true, false, false], 14, [.set 3 (.call 25 [.var 1]),
    .set 4 (.call 24 [.var 1]),
    .set 5 (.lst []),
    .forL false [6] (.var 2) [.set 9 .dT0,
    .forL false [10] (.var 4) [.setK 9 (.var 10) (.call 12 [.var 6, .ix (.var 10) (.int 0), .ix (.var 10) (.int 1)]),
    .ife (.cmp .ne (.ix (.var 9) (.var 10)) (.call 21 [.var 6, .ix (.var 10) (.int 0), .ix (.var 10) (.int 1)])) [.ret (.bl false)] []],
    .app 5 (.var 9)],
    .set 7 .dK0,
    .forR 8 [.ife (.cmp .eq (.bi .len [.var 4]) (.int 4)) (.int 16) (.int 64)] [.set 11 (.call 17 [.var 0, .call 34 [.var 4, .var 8]]),
    .set 12 (.call 8 [.var 3, .var 11]),
    .set 13 (.call 31 [.var 1, .var 11]),
    .ife (.or [.not (.isI (.var 12) .tuple), .cmp .ne (.ix (.var 12) (.int 0)) (.ife (.cmp .eq (.var 13) (.str "")) (.str "enough") (.str "fooled"))]) [.ret (.bl false)] [],
    .ife (.cmp .eq (.var 13) (.str "")) [.forL false [9] (.var 5) [.ife (.not (.call 35 [.var 1, .var 11, .var 9, .ix (.var 9) (.tup [.ix (.var 1) (.int 1), .ix (.var 1) (.int 3)])])) [.ret (.bl false)] []]] [.ife (.cmp .inn (.var 13) (.var 7)) [.ife (.or [.cmp .ne (.ix (.var 12) (.int 1)) (.var 13), .cmp .ne (.tup [.ix (.var 12) (.int 2), .ix (.var 12) (.int 3)]) (.ix (.var 7) (.var 13))]) [.ret (.bl false)] []] [.ife (.or [.cmp .ne (.ix (.var 12) (.int 1)) (.var 13), .not (.call 33 [.var 1, .var 13, .ix (.var 12) (.int 2), .ix (.var 12) (.int 3)])]) [.ret (.bl false)] [],
    .setK 7 (.var 13) (.tup [.ix (.var 12) (.int 2), .ix (.var 12) (.int 3)])]]],
    .ret (.cmp .eq (.bi .sorted [.bi .list [.var 7]]) (.lst [.str "begin", .str "end", .str "quick"]))]⟩
/-- law(script); script, purse, a, g, kind, box, row, more, free -/
def f37 : Fn := ⟨[false], 9, [.set 1 (.call 15 [.var 0, .int 0]),
    .set 2 (.bin .add (.int 2) (.call 16 [.var 1, .int 5])),
    .set 3 (.bin .add (.int 2) (.call 16 [.var 1, .int 5])),
    .set 4 (.call 16 [.var 1, .int 3]),
    .set 5 (.ife (.cmp .eq (.var 4) (.int 0)) (.tup [.var 2, .bin .add (.var 2) (.int 1), .var 3, .bin .add (.var 3) (.int 1)]) (.ife (.cmp .eq (.var 4) (.int 1)) (.tup [.var 2, .bin .add (.var 2) (.int 2), .var 3, .bin .add (.var 3) (.int 1)]) (.tup [.var 2, .bin .add (.var 2) (.int 1), .var 3, .bin .add (.var 3) (.int 2)]))),
    .set 6 (.call 29 [.var 1, .var 5, .call 16 [.var 1, .int 4]]),
    .set 7 (.call 30 [.var 1, .var 5, .var 6]),
    .set 8 (.call 26 [.var 1, .bin .add (.int 1) (.call 16 [.var 1, .int 9]), .bin .add (.bi .max1 [.var 5]) (.int 2)]),
    .ret (.call 36 [.var 1, .var 5, .lst [.var 6, .var 7, .var 8]])]⟩
/-- Box.__init__(self, a0, a1, g0, g1); self, a0, a1, g0, g1, delay -/
def f38 : Fn := ⟨[true, false, false, false, false], 6, [.forL false [5] (.tup [.var 1, .var 2, .var 3, .var 4]) [.expr (.call 2 [.var 5, .int 60, .str "number"])],
    .ife (.not (.chain .le .le (.int 2) (.var 1) (.var 2))) [.raise 3 (.str "begin")] [],
    .ife (.not (.chain .le .le (.int 2) (.var 3) (.var 4))) [.raise 3 (.str "end")] [],
    .setF 0 "a0" (.var 1),
    .setF 0 "a1" (.var 2),
    .setF 0 "g0" (.var 3),
    .setF 0 "g1" (.var 4)]⟩
/-- Box.quick(self); self -/
def f39 : Fn := ⟨[false], 1, [.ret (.tup [.fld (.var 0) "a0", .fld (.var 0) "g0"])]⟩
/-- Box.slow(self); self -/
def f40 : Fn := ⟨[false], 1, [.ret (.tup [.fld (.var 0) "a1", .fld (.var 0) "g1"])]⟩
/-- Box.ready(self); self -/
def f41 : Fn := ⟨[false], 1, [.expr (.call 0 [.int 0])]⟩
/-- Box.dull(self); self -/
def f42 : Fn := ⟨[false], 1, [.expr (.call 0 [.int 1])]⟩
def F : Nat → Fn
  | 0 => f0
  | 1 => f1
  | 2 => f2
  | 3 => f3
  | 4 => f4
  | 5 => f5
  | 6 => f6
  | 7 => f7
  | 8 => f8
  | 9 => f9
  | 10 => f10
  | 11 => f11
  | 12 => f12
  | 13 => f13
  | 14 => f14
  | 15 => f15
  | 16 => f16
  | 17 => f17
  | 18 => f18
  | 19 => f19
  | 20 => f20
  | 21 => f21
  | 22 => f22
  | 23 => f23
  | 24 => f24
  | 25 => f25
  | 26 => f26
  | 27 => f27
  | 28 => f28
  | 29 => f29
  | 30 => f30
  | 31 => f31
  | 32 => f32
  | 33 => f33
  | 34 => f34
  | 35 => f35
  | 36 => f36
  | 37 => f37
  | 38 => f38
  | 39 => f39
  | 40 => f40
  | 41 => f41
  | 42 => f42
  | _ => ⟨[], 0, [.hole]⟩
def names : List Str := [("_wall" : Str), ("is_whole" : Str), ("check_most" : Str), ("check_row" : Str), ("check_items" : Str), ("is_of_box" : Str), ("two_ends" : Str), ("check_organs" : Str), ("hearing_foe" : Str), ("runs_of" : Str), ("flags_of" : Str), ("notes_of_flags" : Str), ("steady_notes" : Str), ("spread_of" : Str), ("latch_notes" : Str), ("_law_purse" : Str), ("_law_draw" : Str), ("_law_mix" : Str), ("_law_runs" : Str), ("_law_flags" : Str), ("_law_notes" : Str), ("_law_steady" : Str), ("_law_spread" : Str), ("_law_latch" : Str), ("_law_box_organs" : Str), ("_law_box" : Str), ("_law_draw_row" : Str), ("_law_note_lines" : Str), ("_law_rest_lines" : Str), ("_law_same_row" : Str), ("_law_unlike_row" : Str), ("_law_lack" : Str), ("_law_lacking" : Str), ("_law_rows_part" : Str), ("_law_set_of" : Str), ("_law_slow_known" : Str), ("_law_all_sets" : Str), ("law" : Str)]
def clsBody : Stmt → List Stmt
  | .ClassDef _ _ _ b _ _ _ _ _ _ _ => b
  | _ => []
def cnames : List Str := ["OrganError", "TooMany", "BadRow", "BadBox", "BadKind", "BadSounds", "Box"]
def supT : Nat → Nat → Bool
  | _, _ => false
def efT : Nat → Str
  | 1 => "what"
  | 2 => "line"
  | 3 => "what"
  | 4 => "place"
  | 5 => "what"
  | _ => ""
def ekT (c : Nat) : Bool := decide (c ∈ [1, 2, 3, 4, 5])
def iniT : Nat → Nat
  | 6 => 38
  | _ => 0
def foT : Nat → List Str
  | 6 => ["a0", "a1", "g0", "g1"]
  | _ => []
def mL : List (Nat × Str × Nat) := [(6, "quick", 39), (6, "slow", 40), (6, "ready", 41), (6, "dull", 42)]
def mthT (c : Nat) (m : Str) : Option Nat := (mL.find? fun x => decide (x.1 = c) && decide (x.2.1 = m)).map (·.2.2)
theorem mth_mem {c : Nat} {m : Str} {f : Nat} (h : mthT c m = some f) : (c, m, f) ∈ mL := by
  unfold mthT at h
  obtain ⟨x, hx, rfl⟩ := Option.map_eq_some_iff.mp h
  have h1 := List.find?_some hx
  have h2 := List.mem_of_find?_eq_some hx
  simp only [Bool.and_eq_true, decide_eq_true_eq] at h1
  obtain ⟨rfl, rfl⟩ := h1
  exact h2
def P : Pg := { io := fun f => (F f).io, ini := iniT, mth := mthT, sup := supT, fo := fun c f => decide (f ∈ foT c), ef := efT, ek := ekT }
theorem io0 : P.io 0 = [false] := (rfl)
theorem io1 : P.io 1 = [false] := (rfl)
theorem io2 : P.io 2 = [false, false, false] := (rfl)
theorem io3 : P.io 3 = [false, false] := (rfl)
theorem io4 : P.io 4 = [false] := (rfl)
theorem io5 : P.io 5 = [false, false] := (rfl)
theorem io6 : P.io 6 = [false] := (rfl)
theorem io7 : P.io 7 = [false, false] := (rfl)
theorem io8 : P.io 8 = [false, false] := (rfl)
theorem io9 : P.io 9 = [false, false] := (rfl)
theorem io10 : P.io 10 = [false, false, false, false] := (rfl)
theorem io11 : P.io 11 = [false] := (rfl)
theorem io12 : P.io 12 = [false, false, false] := (rfl)
theorem io13 : P.io 13 = [false, false] := (rfl)
theorem io14 : P.io 14 = [false, false] := (rfl)
theorem io15 : P.io 15 = [false, false] := (rfl)
theorem io16 : P.io 16 = [true, false] := (rfl)
theorem io17 : P.io 17 = [true, false] := (rfl)
theorem io18 : P.io 18 = [false, false] := (rfl)
theorem io19 : P.io 19 = [false, false, false, false] := (rfl)
theorem io20 : P.io 20 = [false, false] := (rfl)
theorem io21 : P.io 21 = [false, false, false] := (rfl)
theorem io22 : P.io 22 = [false, false] := (rfl)
theorem io23 : P.io 23 = [false, false] := (rfl)
theorem io24 : P.io 24 = [false] := (rfl)
theorem io25 : P.io 25 = [false] := (rfl)
theorem io26 : P.io 26 = [true, false, false] := (rfl)
theorem io27 : P.io 27 = [true, false] := (rfl)
theorem io28 : P.io 28 = [true, false] := (rfl)
theorem io29 : P.io 29 = [true, false, false] := (rfl)
theorem io30 : P.io 30 = [true, false, false] := (rfl)
theorem io31 : P.io 31 = [false, false] := (rfl)
theorem io32 : P.io 32 = [false, false] := (rfl)
theorem io33 : P.io 33 = [false, false, false, false] := (rfl)
theorem io34 : P.io 34 = [false, false] := (rfl)
theorem io35 : P.io 35 = [false, false, false, false] := (rfl)
theorem io36 : P.io 36 = [true, false, false] := (rfl)
theorem io37 : P.io 37 = [false] := (rfl)
theorem io38 : P.io 38 = [true, false, false, false, false] := (rfl)
theorem io39 : P.io 39 = [false] := (rfl)
theorem io40 : P.io 40 = [false] := (rfl)
theorem io41 : P.io 41 = [false] := (rfl)
theorem io42 : P.io 42 = [false] := (rfl)
theorem ef1 : P.ef 1 = "what" := (rfl)
theorem ek1 : P.ek 1 = true := (rfl)
theorem ef2 : P.ef 2 = "line" := (rfl)
theorem ek2 : P.ek 2 = true := (rfl)
theorem ef3 : P.ef 3 = "what" := (rfl)
theorem ek3 : P.ek 3 = true := (rfl)
theorem ef4 : P.ef 4 = "place" := (rfl)
theorem ek4 : P.ek 4 = true := (rfl)
theorem ef5 : P.ef 5 = "what" := (rfl)
theorem ek5 : P.ek 5 = true := (rfl)
theorem fo6_a0 : P.fo 6 "a0" = true := by decide +kernel
theorem fo6_a1 : P.fo 6 "a1" = true := by decide +kernel
theorem fo6_g0 : P.fo 6 "g0" = true := by decide +kernel
theorem fo6_g1 : P.fo 6 "g1" = true := by decide +kernel
theorem lo6_a0 {d0 d1 d2 d3 : VS.D} : List.lookup ("a0" : Str) ([("a0", d0), ("a1", d1), ("g0", d2), ("g1", d3)] : List (Str × VS.D)) = some d0 := (rfl)
theorem pa6_a0 { d : VS.D} : putFD "a0" d ([] : List (Str × VS.D)) = ([("a0", d)] : List (Str × VS.D)) := (rfl)
theorem pu6_a0 {d0 d1 d2 d3 d : VS.D} : putFD "a0" d ([("a0", d0), ("a1", d1), ("g0", d2), ("g1", d3)] : List (Str × VS.D)) = ([("a0", d), ("a1", d1), ("g0", d2), ("g1", d3)] : List (Str × VS.D)) := (rfl)
theorem lo6_a1 {d0 d1 d2 d3 : VS.D} : List.lookup ("a1" : Str) ([("a0", d0), ("a1", d1), ("g0", d2), ("g1", d3)] : List (Str × VS.D)) = some d1 := (rfl)
theorem pa6_a1 {d0 d : VS.D} : putFD "a1" d ([("a0", d0)] : List (Str × VS.D)) = ([("a0", d0), ("a1", d)] : List (Str × VS.D)) := (rfl)
theorem pu6_a1 {d0 d1 d2 d3 d : VS.D} : putFD "a1" d ([("a0", d0), ("a1", d1), ("g0", d2), ("g1", d3)] : List (Str × VS.D)) = ([("a0", d0), ("a1", d), ("g0", d2), ("g1", d3)] : List (Str × VS.D)) := (rfl)
theorem lo6_g0 {d0 d1 d2 d3 : VS.D} : List.lookup ("g0" : Str) ([("a0", d0), ("a1", d1), ("g0", d2), ("g1", d3)] : List (Str × VS.D)) = some d2 := (rfl)
theorem pa6_g0 {d0 d1 d : VS.D} : putFD "g0" d ([("a0", d0), ("a1", d1)] : List (Str × VS.D)) = ([("a0", d0), ("a1", d1), ("g0", d)] : List (Str × VS.D)) := (rfl)
theorem pu6_g0 {d0 d1 d2 d3 d : VS.D} : putFD "g0" d ([("a0", d0), ("a1", d1), ("g0", d2), ("g1", d3)] : List (Str × VS.D)) = ([("a0", d0), ("a1", d1), ("g0", d), ("g1", d3)] : List (Str × VS.D)) := (rfl)
theorem lo6_g1 {d0 d1 d2 d3 : VS.D} : List.lookup ("g1" : Str) ([("a0", d0), ("a1", d1), ("g0", d2), ("g1", d3)] : List (Str × VS.D)) = some d3 := (rfl)
theorem pa6_g1 {d0 d1 d2 d : VS.D} : putFD "g1" d ([("a0", d0), ("a1", d1), ("g0", d2)] : List (Str × VS.D)) = ([("a0", d0), ("a1", d1), ("g0", d2), ("g1", d)] : List (Str × VS.D)) := (rfl)
theorem pu6_g1 {d0 d1 d2 d3 d : VS.D} : putFD "g1" d ([("a0", d0), ("a1", d1), ("g0", d2), ("g1", d3)] : List (Str × VS.D)) = ([("a0", d0), ("a1", d1), ("g0", d2), ("g1", d)] : List (Str × VS.D)) := (rfl)
theorem mt6_quick : P.mth 6 "quick" = some 39 := (rfl)
theorem lm6_quick {d0 d1 d2 d3 : VS.D} : List.lookup ("quick" : Str) ([("a0", d0), ("a1", d1), ("g0", d2), ("g1", d3)] : List (Str × VS.D)) = none := (rfl)
theorem mt6_slow : P.mth 6 "slow" = some 40 := (rfl)
theorem lm6_slow {d0 d1 d2 d3 : VS.D} : List.lookup ("slow" : Str) ([("a0", d0), ("a1", d1), ("g0", d2), ("g1", d3)] : List (Str × VS.D)) = none := (rfl)
theorem mt6_ready : P.mth 6 "ready" = some 41 := (rfl)
theorem lm6_ready {d0 d1 d2 d3 : VS.D} : List.lookup ("ready" : Str) ([("a0", d0), ("a1", d1), ("g0", d2), ("g1", d3)] : List (Str × VS.D)) = none := (rfl)
theorem mt6_dull : P.mth 6 "dull" = some 42 := (rfl)
theorem lm6_dull {d0 d1 d2 d3 : VS.D} : List.lookup ("dull" : Str) ([("a0", d0), ("a1", d1), ("g0", d2), ("g1", d3)] : List (Str × VS.D)) = none := (rfl)
theorem in6 : P.ini 6 = 38 := (rfl)
theorem un1 (n : Nat) (x0 : VS.D × Md) : VS.run P F (n + 1) 1 [x0] = endF [false] (exSs P (VS.run P F n) f1.body [some x0]) := (rfl)
theorem un2 (n : Nat) (x0 x1 x2 : VS.D × Md) : VS.run P F (n + 1) 2 [x0, x1, x2] = endF [false, false, false] (exSs P (VS.run P F n) f2.body [some x0, some x1, some x2]) := (rfl)
theorem un3 (n : Nat) (x0 x1 : VS.D × Md) : VS.run P F (n + 1) 3 [x0, x1] = endF [false, false] (exSs P (VS.run P F n) f3.body [some x0, some x1]) := (rfl)
theorem un4 (n : Nat) (x0 : VS.D × Md) : VS.run P F (n + 1) 4 [x0] = endF [false] (exSs P (VS.run P F n) f4.body [some x0, none]) := (rfl)
theorem un5 (n : Nat) (x0 x1 : VS.D × Md) : VS.run P F (n + 1) 5 [x0, x1] = endF [false, false] (exSs P (VS.run P F n) f5.body [some x0, some x1]) := (rfl)
theorem un6 (n : Nat) (x0 : VS.D × Md) : VS.run P F (n + 1) 6 [x0] = endF [false] (exSs P (VS.run P F n) f6.body [some x0]) := (rfl)
theorem un7 (n : Nat) (x0 x1 : VS.D × Md) : VS.run P F (n + 1) 7 [x0, x1] = endF [false, false] (exSs P (VS.run P F n) f7.body [some x0, some x1, none, none]) := (rfl)
theorem un8 (n : Nat) (x0 x1 : VS.D × Md) : VS.run P F (n + 1) 8 [x0, x1] = endF [false, false] (exSs P (VS.run P F n) f8.body [some x0, some x1, none, none, none, none, none]) := (rfl)
theorem un9 (n : Nat) (x0 x1 : VS.D × Md) : VS.run P F (n + 1) 9 [x0, x1] = endF [false, false] (exSs P (VS.run P F n) f9.body [some x0, some x1, none, none, none, none]) := (rfl)
theorem un10 (n : Nat) (x0 x1 x2 x3 : VS.D × Md) : VS.run P F (n + 1) 10 [x0, x1, x2, x3] = endF [false, false, false, false] (exSs P (VS.run P F n) f10.body [some x0, some x1, some x2, some x3, none, none, none, none]) := (rfl)
theorem un11 (n : Nat) (x0 : VS.D × Md) : VS.run P F (n + 1) 11 [x0] = endF [false] (exSs P (VS.run P F n) f11.body [some x0, none, none, none]) := (rfl)
theorem un12 (n : Nat) (x0 x1 x2 : VS.D × Md) : VS.run P F (n + 1) 12 [x0, x1, x2] = endF [false, false, false] (exSs P (VS.run P F n) f12.body [some x0, some x1, some x2]) := (rfl)
theorem un13 (n : Nat) (x0 x1 : VS.D × Md) : VS.run P F (n + 1) 13 [x0, x1] = endF [false, false] (exSs P (VS.run P F n) f13.body [some x0, some x1, none, none, none, none]) := (rfl)
theorem un14 (n : Nat) (x0 x1 : VS.D × Md) : VS.run P F (n + 1) 14 [x0, x1] = endF [false, false] (exSs P (VS.run P F n) f14.body [some x0, some x1, none, none, none, none]) := (rfl)
theorem un15 (n : Nat) (x0 x1 : VS.D × Md) : VS.run P F (n + 1) 15 [x0, x1] = endF [false, false] (exSs P (VS.run P F n) f15.body [some x0, some x1, none, none, none]) := (rfl)
theorem un16 (n : Nat) (x0 x1 : VS.D × Md) : VS.run P F (n + 1) 16 [x0, x1] = endF [true, false] (exSs P (VS.run P F n) f16.body [some x0, some x1, none]) := (rfl)
theorem un17 (n : Nat) (x0 x1 : VS.D × Md) : VS.run P F (n + 1) 17 [x0, x1] = endF [true, false] (exSs P (VS.run P F n) f17.body [some x0, some x1, none, none, none]) := (rfl)
theorem un18 (n : Nat) (x0 x1 : VS.D × Md) : VS.run P F (n + 1) 18 [x0, x1] = endF [false, false] (exSs P (VS.run P F n) f18.body [some x0, some x1, none, none, none, none]) := (rfl)
theorem un19 (n : Nat) (x0 x1 x2 x3 : VS.D × Md) : VS.run P F (n + 1) 19 [x0, x1, x2, x3] = endF [false, false, false, false] (exSs P (VS.run P F n) f19.body [some x0, some x1, some x2, some x3, none, none, none, none]) := (rfl)
theorem un20 (n : Nat) (x0 x1 : VS.D × Md) : VS.run P F (n + 1) 20 [x0, x1] = endF [false, false] (exSs P (VS.run P F n) f20.body [some x0, some x1, none, none, none, none]) := (rfl)
theorem un21 (n : Nat) (x0 x1 x2 : VS.D × Md) : VS.run P F (n + 1) 21 [x0, x1, x2] = endF [false, false, false] (exSs P (VS.run P F n) f21.body [some x0, some x1, some x2]) := (rfl)
theorem un22 (n : Nat) (x0 x1 : VS.D × Md) : VS.run P F (n + 1) 22 [x0, x1] = endF [false, false] (exSs P (VS.run P F n) f22.body [some x0, some x1, none, none, none]) := (rfl)
theorem un23 (n : Nat) (x0 x1 : VS.D × Md) : VS.run P F (n + 1) 23 [x0, x1] = endF [false, false] (exSs P (VS.run P F n) f23.body [some x0, some x1, none, none, none, none]) := (rfl)
theorem un24 (n : Nat) (x0 : VS.D × Md) : VS.run P F (n + 1) 24 [x0] = endF [false] (exSs P (VS.run P F n) f24.body [some x0, none, none, none]) := (rfl)
theorem un25 (n : Nat) (x0 : VS.D × Md) : VS.run P F (n + 1) 25 [x0] = endF [false] (exSs P (VS.run P F n) f25.body [some x0]) := (rfl)
theorem un26 (n : Nat) (x0 x1 x2 : VS.D × Md) : VS.run P F (n + 1) 26 [x0, x1, x2] = endF [true, false, false] (exSs P (VS.run P F n) f26.body [some x0, some x1, some x2, none, none, none]) := (rfl)
theorem un27 (n : Nat) (x0 x1 : VS.D × Md) : VS.run P F (n + 1) 27 [x0, x1] = endF [true, false] (exSs P (VS.run P F n) f27.body [some x0, some x1, none, none]) := (rfl)
theorem un28 (n : Nat) (x0 x1 : VS.D × Md) : VS.run P F (n + 1) 28 [x0, x1] = endF [true, false] (exSs P (VS.run P F n) f28.body [some x0, some x1, none]) := (rfl)
theorem un29 (n : Nat) (x0 x1 x2 : VS.D × Md) : VS.run P F (n + 1) 29 [x0, x1, x2] = endF [true, false, false] (exSs P (VS.run P F n) f29.body [some x0, some x1, some x2, none, none]) := (rfl)
theorem un30 (n : Nat) (x0 x1 x2 : VS.D × Md) : VS.run P F (n + 1) 30 [x0, x1, x2] = endF [true, false, false] (exSs P (VS.run P F n) f30.body [some x0, some x1, some x2, none, none]) := (rfl)
theorem un31 (n : Nat) (x0 x1 : VS.D × Md) : VS.run P F (n + 1) 31 [x0, x1] = endF [false, false] (exSs P (VS.run P F n) f31.body [some x0, some x1, none]) := (rfl)
theorem un32 (n : Nat) (x0 x1 : VS.D × Md) : VS.run P F (n + 1) 32 [x0, x1] = endF [false, false] (exSs P (VS.run P F n) f32.body [some x0, some x1, none, none]) := (rfl)
theorem un33 (n : Nat) (x0 x1 x2 x3 : VS.D × Md) : VS.run P F (n + 1) 33 [x0, x1, x2, x3] = endF [false, false, false, false] (exSs P (VS.run P F n) f33.body [some x0, some x1, some x2, some x3, none, none, none, none, none, none, none]) := (rfl)
theorem un34 (n : Nat) (x0 x1 : VS.D × Md) : VS.run P F (n + 1) 34 [x0, x1] = endF [false, false] (exSs P (VS.run P F n) f34.body [some x0, some x1, none, none, none]) := (rfl)
theorem un35 (n : Nat) (x0 x1 x2 x3 : VS.D × Md) : VS.run P F (n + 1) 35 [x0, x1, x2, x3] = endF [false, false, false, false] (exSs P (VS.run P F n) f35.body [some x0, some x1, some x2, some x3, none, none, none, none]) := (rfl)
theorem un36 (n : Nat) (x0 x1 x2 : VS.D × Md) : VS.run P F (n + 1) 36 [x0, x1, x2] = endF [true, false, false] (exSs P (VS.run P F n) f36.body [some x0, some x1, some x2, none, none, none, none, none, none, none, none, none, none, none]) := (rfl)
theorem un37 (n : Nat) (x0 : VS.D × Md) : VS.run P F (n + 1) 37 [x0] = endF [false] (exSs P (VS.run P F n) f37.body [some x0, none, none, none, none, none, none, none, none]) := (rfl)
theorem un38 (n : Nat) (x0 x1 x2 x3 x4 : VS.D × Md) : VS.run P F (n + 1) 38 [x0, x1, x2, x3, x4] = endF [true, false, false, false, false] (exSs P (VS.run P F n) f38.body [some x0, some x1, some x2, some x3, some x4, none]) := (rfl)
theorem un39 (n : Nat) (x0 : VS.D × Md) : VS.run P F (n + 1) 39 [x0] = endF [false] (exSs P (VS.run P F n) f39.body [some x0]) := (rfl)
theorem un40 (n : Nat) (x0 : VS.D × Md) : VS.run P F (n + 1) 40 [x0] = endF [false] (exSs P (VS.run P F n) f40.body [some x0]) := (rfl)
theorem un41 (n : Nat) (x0 : VS.D × Md) : VS.run P F (n + 1) 41 [x0] = endF [false] (exSs P (VS.run P F n) f41.body [some x0]) := (rfl)
theorem un42 (n : Nat) (x0 : VS.D × Md) : VS.run P F (n + 1) 42 [x0] = endF [false] (exSs P (VS.run P F n) f42.body [some x0]) := (rfl)
def T : Tx := { mc := fun c => decide (c ∈ ([6] : List Nat)), hk := fun c => decide (c ∈ []), fk := fun f => decide (f < 38), fnm := fun f => names.getD f "", cnm := fun c => cnames.getD c "" }
def N0 : List Str := ["k"]
abbrev s0 : Stmt := topS 0
theorem chk0 : chkSs T P N0 (defScope s0) (fxOf f0.io) f0.body (defBody s0) = true := by decide +kernel
theorem sc0 : FnScope N0 ["k"] (defScope s0) := ⟨rfl, rfl, rfl, by decide +kernel, rfl, by decide +kernel, by decide +kernel⟩
def N1 : List Str := ["value"]
abbrev s1 : Stmt := topS 9
theorem chk1 : chkSs T P N1 (defScope s1) (fxOf f1.io) f1.body (defBody s1) = true := by decide +kernel
theorem sc1 : FnScope N1 ["value"] (defScope s1) := ⟨rfl, rfl, rfl, by decide +kernel, rfl, by decide +kernel, by decide +kernel⟩
def N2 : List Str := ["value", "most", "what"]
abbrev s2 : Stmt := topS 10
theorem chk2 : chkSs T P N2 (defScope s2) (fxOf f2.io) f2.body (defBody s2) = true := by decide +kernel
theorem sc2 : FnScope N2 ["value", "most", "what"] (defScope s2) := ⟨rfl, rfl, rfl, by decide +kernel, rfl, by decide +kernel, by decide +kernel⟩
def N3 : List Str := ["row", "most"]
abbrev s3 : Stmt := topS 11
theorem chk3 : chkSs T P N3 (defScope s3) (fxOf f3.io) f3.body (defBody s3) = true := by decide +kernel
theorem sc3 : FnScope N3 ["row", "most"] (defScope s3) := ⟨rfl, rfl, rfl, by decide +kernel, rfl, by decide +kernel, by decide +kernel⟩
def N4 : List Str := ["row", "line"]
abbrev s4 : Stmt := topS 12
theorem chk4 : chkSs T P N4 (defScope s4) (fxOf f4.io) f4.body (defBody s4) = true := by decide +kernel
theorem sc4 : FnScope N4 ["row"] (defScope s4) := ⟨rfl, rfl, rfl, by decide +kernel, rfl, by decide +kernel, by decide +kernel⟩
def N5 : List Str := ["organ", "box"]
abbrev s5 : Stmt := topS 14
theorem chk5 : chkSs T P N5 (defScope s5) (fxOf f5.io) f5.body (defBody s5) = true := by decide +kernel
theorem sc5 : FnScope N5 ["organ", "box"] (defScope s5) := ⟨rfl, rfl, rfl, by decide +kernel, rfl, by decide +kernel, by decide +kernel⟩
def N6 : List Str := ["a"]
abbrev s6 : Stmt := topS 15
theorem chk6 : chkSs T P N6 (defScope s6) (fxOf f6.io) f6.body (defBody s6) = true := by decide +kernel
theorem sc6 : FnScope N6 ["a"] (defScope s6) := ⟨rfl, rfl, rfl, by decide +kernel, rfl, by decide +kernel, by decide +kernel⟩
def N7 : List Str := ["box", "organs", "organ", "place"]
abbrev s7 : Stmt := topS 16
theorem chk7 : chkSs T P N7 (defScope s7) (fxOf f7.io) f7.body (defBody s7) = true := by decide +kernel
theorem sc7 : FnScope N7 ["box", "organs"] (defScope s7) := ⟨rfl, rfl, rfl, by decide +kernel, rfl, by decide +kernel, by decide +kernel⟩
def N8 : List Str := ["box", "organs", "late", "ahead", "more", "less", "one"]
abbrev s8 : Stmt := topS 17
theorem chk8 : chkSs T P N8 (defScope s8) (fxOf f8.io) f8.body (defBody s8) = true := by decide +kernel
theorem sc8 : FnScope N8 ["box", "organs"] (defScope s8) := ⟨rfl, rfl, rfl, by decide +kernel, rfl, by decide +kernel, by decide +kernel⟩
def N9 : List Str := ["row", "past", "runs", "open_run", "closed_run", "moment"]
abbrev s9 : Stmt := topS 21
theorem chk9 : chkSs T P N9 (defScope s9) (fxOf f9.io) f9.body (defBody s9) = true := by decide +kernel
theorem sc9 : FnScope N9 ["row", "past"] (defScope s9) := ⟨rfl, rfl, rfl, by decide +kernel, rfl, by decide +kernel, by decide +kernel⟩
def N10 : List Str := ["row", "a", "g", "past", "flags", "flag", "open_run", "closed_run"]
abbrev s10 : Stmt := topS 22
theorem chk10 : chkSs T P N10 (defScope s10) (fxOf f10.io) f10.body (defBody s10) = true := by decide +kernel
theorem sc10 : FnScope N10 ["row", "a", "g", "past"] (defScope s10) := ⟨rfl, rfl, rfl, by decide +kernel, rfl, by decide +kernel, by decide +kernel⟩
def N11 : List Str := ["flags", "notes", "began", "moment"]
abbrev s11 : Stmt := topS 23
theorem chk11 : chkSs T P N11 (defScope s11) (fxOf f11.io) f11.body (defBody s11) = true := by decide +kernel
theorem sc11 : FnScope N11 ["flags"] (defScope s11) := ⟨rfl, rfl, rfl, by decide +kernel, rfl, by decide +kernel, by decide +kernel⟩
def N12 : List Str := ["row", "a", "g"]
abbrev s12 : Stmt := topS 24
theorem chk12 : chkSs T P N12 (defScope s12) (fxOf f12.io) f12.body (defBody s12) = true := by decide +kernel
theorem sc12 : FnScope N12 ["row", "a", "g"] (defScope s12) := ⟨rfl, rfl, rfl, by decide +kernel, rfl, by decide +kernel, by decide +kernel⟩
def N13 : List Str := ["row", "box", "quick", "slow", "found", "place"]
abbrev s13 : Stmt := topS 26
theorem chk13 : chkSs T P N13 (defScope s13) (fxOf f13.io) f13.body (defBody s13) = true := by decide +kernel
theorem sc13 : FnScope N13 ["row", "box"] (defScope s13) := ⟨rfl, rfl, rfl, by decide +kernel, rfl, by decide +kernel, by decide +kernel⟩
def N14 : List Str := ["begins", "ends", "both", "found", "begun", "moment"]
abbrev s14 : Stmt := topS 28
theorem chk14 : chkSs T P N14 (defScope s14) (fxOf f14.io) f14.body (defBody s14) = true := by decide +kernel
theorem sc14 : FnScope N14 ["begins", "ends"] (defScope s14) := ⟨rfl, rfl, rfl, by decide +kernel, rfl, by decide +kernel, by decide +kernel⟩
def N15 : List Str := ["script", "at", "cell", "size", "one"]
abbrev s15 : Stmt := topS 30
theorem chk15 : chkSs T P N15 (defScope s15) (fxOf f15.io) f15.body (defBody s15) = true := by decide +kernel
theorem sc15 : FnScope N15 ["script", "at"] (defScope s15) := ⟨rfl, rfl, rfl, by decide +kernel, rfl, by decide +kernel, by decide +kernel⟩
def N16 : List Str := ["purse", "many", "found"]
abbrev s16 : Stmt := topS 31
theorem chk16 : chkSs T P N16 (defScope s16) (fxOf f16.io) f16.body (defBody s16) = true := by decide +kernel
theorem sc16 : FnScope N16 ["purse", "many"] (defScope s16) := ⟨rfl, rfl, rfl, by decide +kernel, rfl, by decide +kernel, by decide +kernel⟩
def N17 : List Str := ["purse", "things", "left", "mixed", "turn"]
abbrev s17 : Stmt := topS 32
theorem chk17 : chkSs T P N17 (defScope s17) (fxOf f17.io) f17.body (defBody s17) = true := by decide +kernel
theorem sc17 : FnScope N17 ["purse", "things"] (defScope s17) := ⟨rfl, rfl, rfl, by decide +kernel, rfl, by decide +kernel, by decide +kernel⟩
def N18 : List Str := ["row", "past", "runs", "line", "opened", "closed"]
abbrev s18 : Stmt := topS 33
theorem chk18 : chkSs T P N18 (defScope s18) (fxOf f18.io) f18.body (defBody s18) = true := by decide +kernel
theorem sc18 : FnScope N18 ["row", "past"] (defScope s18) := ⟨rfl, rfl, rfl, by decide +kernel, rfl, by decide +kernel, by decide +kernel⟩
def N19 : List Str := ["row", "a", "g", "past", "flags", "flag", "opened", "closed"]
abbrev s19 : Stmt := topS 34
theorem chk19 : chkSs T P N19 (defScope s19) (fxOf f19.io) f19.body (defBody s19) = true := by decide +kernel
theorem sc19 : FnScope N19 ["row", "a", "g", "past"] (defScope s19) := ⟨rfl, rfl, rfl, by decide +kernel, rfl, by decide +kernel, by decide +kernel⟩
def N20 : List Str := ["flags", "first", "notes", "begin", "at", "before"]
abbrev s20 : Stmt := topS 35
theorem chk20 : chkSs T P N20 (defScope s20) (fxOf f20.io) f20.body (defBody s20) = true := by decide +kernel
theorem sc20 : FnScope N20 ["flags", "first"] (defScope s20) := ⟨rfl, rfl, rfl, by decide +kernel, rfl, by decide +kernel, by decide +kernel⟩
def N21 : List Str := ["row", "a", "g"]
abbrev s21 : Stmt := topS 36
theorem chk21 : chkSs T P N21 (defScope s21) (fxOf f21.io) f21.body (defBody s21) = true := by decide +kernel
theorem sc21 : FnScope N21 ["row", "a", "g"] (defScope s21) := ⟨rfl, rfl, rfl, by decide +kernel, rfl, by decide +kernel, by decide +kernel⟩
def N22 : List Str := ["row", "box", "quick", "slow", "at"]
abbrev s22 : Stmt := topS 37
theorem chk22 : chkSs T P N22 (defScope s22) (fxOf f22.io) f22.body (defBody s22) = true := by decide +kernel
theorem sc22 : FnScope N22 ["row", "box"] (defScope s22) := ⟨rfl, rfl, rfl, by decide +kernel, rfl, by decide +kernel, by decide +kernel⟩
def N23 : List Str := ["begins", "ends", "notes", "sounding", "begin", "moment"]
abbrev s23 : Stmt := topS 38
theorem chk23 : chkSs T P N23 (defScope s23) (fxOf f23.io) f23.body (defBody s23) = true := by decide +kernel
theorem sc23 : FnScope N23 ["begins", "ends"] (defScope s23) := ⟨rfl, rfl, rfl, by decide +kernel, rfl, by decide +kernel, by decide +kernel⟩
def N24 : List Str := ["box", "organs", "a", "g"]
abbrev s24 : Stmt := topS 39
theorem chk24 : chkSs T P N24 (defScope s24) (fxOf f24.io) f24.body (defBody s24) = true := by decide +kernel
theorem sc24 : FnScope N24 ["box"] (defScope s24) := ⟨rfl, rfl, rfl, by decide +kernel, rfl, by decide +kernel, by decide +kernel⟩
def N25 : List Str := ["box"]
abbrev s25 : Stmt := topS 40
theorem chk25 : chkSs T P N25 (defScope s25) (fxOf f25.io) f25.body (defBody s25) = true := by decide +kernel
theorem sc25 : FnScope N25 ["box"] (defScope s25) := ⟨rfl, rfl, rfl, by decide +kernel, rfl, by decide +kernel, by decide +kernel⟩
def N26 : List Str := ["purse", "many", "wide", "row", "sort", "turn"]
abbrev s26 : Stmt := topS 41
theorem chk26 : chkSs T P N26 (defScope s26) (fxOf f26.io) f26.body (defBody s26) = true := by decide +kernel
theorem sc26 : FnScope N26 ["purse", "many", "wide"] (defScope s26) := ⟨rfl, rfl, rfl, by decide +kernel, rfl, by decide +kernel, by decide +kernel⟩
def N27 : List Str := ["purse", "box", "row", "turn"]
abbrev s27 : Stmt := topS 42
theorem chk27 : chkSs T P N27 (defScope s27) (fxOf f27.io) f27.body (defBody s27) = true := by decide +kernel
theorem sc27 : FnScope N27 ["purse", "box"] (defScope s27) := ⟨rfl, rfl, rfl, by decide +kernel, rfl, by decide +kernel, by decide +kernel⟩
def N28 : List Str := ["purse", "box", "row"]
abbrev s28 : Stmt := topS 43
theorem chk28 : chkSs T P N28 (defScope s28) (fxOf f28.io) f28.body (defBody s28) = true := by decide +kernel
theorem sc28 : FnScope N28 ["purse", "box"] (defScope s28) := ⟨rfl, rfl, rfl, by decide +kernel, rfl, by decide +kernel, by decide +kernel⟩
def N29 : List Str := ["purse", "box", "many", "row", "turn"]
abbrev s29 : Stmt := topS 44
theorem chk29 : chkSs T P N29 (defScope s29) (fxOf f29.io) f29.body (defBody s29) = true := by decide +kernel
theorem sc29 : FnScope N29 ["purse", "box", "many"] (defScope s29) := ⟨rfl, rfl, rfl, by decide +kernel, rfl, by decide +kernel, by decide +kernel⟩
def N30 : List Str := ["purse", "box", "row", "gap", "hole"]
abbrev s30 : Stmt := topS 45
theorem chk30 : chkSs T P N30 (defScope s30) (fxOf f30.io) f30.body (defBody s30) = true := by decide +kernel
theorem sc30 : FnScope N30 ["purse", "box", "row"] (defScope s30) := ⟨rfl, rfl, rfl, by decide +kernel, rfl, by decide +kernel, by decide +kernel⟩
def N31 : List Str := ["box", "organs", "one"]
abbrev s31 : Stmt := topS 46
theorem chk31 : chkSs T P N31 (defScope s31) (fxOf f31.io) f31.body (defBody s31) = true := by decide +kernel
theorem sc31 : FnScope N31 ["box", "organs"] (defScope s31) := ⟨rfl, rfl, rfl, by decide +kernel, rfl, by decide +kernel, by decide +kernel⟩
def N32 : List Str := ["box", "lack", "organs", "one"]
abbrev s32 : Stmt := topS 47
theorem chk32 : chkSs T P N32 (defScope s32) (fxOf f32.io) f32.body (defBody s32) = true := by decide +kernel
theorem sc32 : FnScope N32 ["box", "lack"] (defScope s32) := ⟨rfl, rfl, rfl, by decide +kernel, rfl, by decide +kernel, by decide +kernel⟩
def N33 : List Str := ["box", "lack", "right", "wrong", "organs", "made", "own", "told", "spread", "many", "one"]
abbrev s33 : Stmt := topS 48
theorem chk33 : chkSs T P N33 (defScope s33) (fxOf f33.io) f33.body (defBody s33) = true := by decide +kernel
theorem sc33 : FnScope N33 ["box", "lack", "right", "wrong"] (defScope s33) := ⟨rfl, rfl, rfl, by decide +kernel, rfl, by decide +kernel, by decide +kernel⟩
def N34 : List Str := ["organs", "number", "found", "left", "organ"]
abbrev s34 : Stmt := topS 49
theorem chk34 : chkSs T P N34 (defScope s34) (fxOf f34.io) f34.body (defBody s34) = true := by decide +kernel
theorem sc34 : FnScope N34 ["organs", "number"] (defScope s34) := ⟨rfl, rfl, rfl, by decide +kernel, rfl, by decide +kernel, by decide +kernel⟩
def N35 : List Str := ["box", "chosen", "heard", "slow", "begins", "ends", "note", "one"]
abbrev s35 : Stmt := topS 50
theorem chk35 : chkSs T P N35 (defScope s35) (fxOf f35.io) f35.body (defBody s35) = true := by decide +kernel
theorem sc35 : FnScope N35 ["box", "chosen", "heard", "slow"] (defScope s35) := ⟨rfl, rfl, rfl, by decide +kernel, rfl, by decide +kernel, by decide +kernel⟩
def N36 : List Str := ["purse", "box", "rows", "made", "organs", "tables", "row", "words", "number", "heard", "organ", "chosen", "told", "lack"]
abbrev s36 : Stmt := topS 51
theorem chk36 : chkSs T P N36 (defScope s36) (fxOf f36.io) f36.body (defBody s36) = true := by decide +kernel
theorem sc36 : FnScope N36 ["purse", "box", "rows"] (defScope s36) := ⟨rfl, rfl, rfl, by decide +kernel, rfl, by decide +kernel, by decide +kernel⟩
def N37 : List Str := ["script", "purse", "a", "g", "kind", "box", "row", "more", "free"]
abbrev s37 : Stmt := topS 52
theorem chk37 : chkSs T P N37 (defScope s37) (fxOf f37.io) f37.body (defBody s37) = true := by decide +kernel
theorem sc37 : FnScope N37 ["script"] (defScope s37) := ⟨rfl, rfl, rfl, by decide +kernel, rfl, by decide +kernel, by decide +kernel⟩
def N38 : List Str := ["self", "a0", "a1", "g0", "g1", "delay"]
abbrev s38 : Stmt := (clsBody (topS 19)).getD 0 (.Pass ⟨0, 0, 0, 0⟩)
theorem chk38 : chkSs T P N38 (defScope s38) (fxOf f38.io) f38.body (defBody s38) = true := by decide +kernel
theorem sc38 : FnScope N38 ["self", "a0", "a1", "g0", "g1"] (defScope s38) := ⟨rfl, rfl, rfl, by decide +kernel, rfl, by decide +kernel, by decide +kernel⟩
def N39 : List Str := ["self"]
abbrev s39 : Stmt := (clsBody (topS 19)).getD 1 (.Pass ⟨0, 0, 0, 0⟩)
theorem chk39 : chkSs T P N39 (defScope s39) (fxOf f39.io) f39.body (defBody s39) = true := by decide +kernel
theorem sc39 : FnScope N39 ["self"] (defScope s39) := ⟨rfl, rfl, rfl, by decide +kernel, rfl, by decide +kernel, by decide +kernel⟩
def N40 : List Str := ["self"]
abbrev s40 : Stmt := (clsBody (topS 19)).getD 2 (.Pass ⟨0, 0, 0, 0⟩)
theorem chk40 : chkSs T P N40 (defScope s40) (fxOf f40.io) f40.body (defBody s40) = true := by decide +kernel
theorem sc40 : FnScope N40 ["self"] (defScope s40) := ⟨rfl, rfl, rfl, by decide +kernel, rfl, by decide +kernel, by decide +kernel⟩
def N41 : List Str := ["self"]
abbrev s41 : Stmt := (clsBody (topS 19)).getD 3 (.Pass ⟨0, 0, 0, 0⟩)
theorem chk41 : chkSs T P N41 (defScope s41) (fxOf f41.io) f41.body (defBody s41) = true := by decide +kernel
theorem sc41 : FnScope N41 ["self"] (defScope s41) := ⟨rfl, rfl, rfl, by decide +kernel, rfl, by decide +kernel, by decide +kernel⟩
def N42 : List Str := ["self"]
abbrev s42 : Stmt := (clsBody (topS 19)).getD 4 (.Pass ⟨0, 0, 0, 0⟩)
theorem chk42 : chkSs T P N42 (defScope s42) (fxOf f42.io) f42.body (defBody s42) = true := by decide +kernel
theorem sc42 : FnScope N42 ["self"] (defScope s42) := ⟨rfl, rfl, rfl, by decide +kernel, rfl, by decide +kernel, by decide +kernel⟩
end LW

set_option Elab.async false
set_option linter.all false
set_option maxRecDepth 100000
set_option maxHeartbeats 0
local macro_rules | `(tactic| walk_at "ev") => `(tactic| simp -implicitDefEqProofs only [↓Ru.bd_eq, ↓Ru.fd_eq, ↓Ru.sq_eq, ↓Ru.forR_eq, ↓Ru.forL_eq, ↓Ru.augIx_eq, ↓Ru.cmpR_eq, ↓Ru.cmpL_eq, ↓Ru.methT_eq, Ru.sl0, Ru.st0, Ru.sl1, Ru.st1, Ru.sl2, Ru.st2, Ru.sl3, Ru.st3, Ru.sl4, Ru.st4, Ru.sl5, Ru.st5, Ru.sl6, Ru.st6, Ru.sl7, Ru.st7, Ru.sl8, Ru.st8, Ru.sl9, Ru.st9, Ru.sl10, Ru.st10, Ru.sl11, Ru.st11, Ru.sl12, Ru.st12, Ru.sl13, Ru.st13, Ru.sl14, Ru.st14, Ru.sl15, Ru.st15, Ru.sl16, Ru.st16, Ru.sl17, Ru.st17, Ru.sl18, Ru.st18, Ru.sl19, Ru.st19, Ru.sl20, Ru.st20, Ru.sl21, Ru.st21, Ru.sl22, Ru.st22, Ru.sl23, Ru.st23, Ru.lk_int, Ru.cp_int, Ru.iv_int, Ru.lk_str, Ru.cp_str, Ru.iv_str, Ru.lk_bl, Ru.cp_bl, Ru.iv_bl, Ru.lk_non, Ru.cp_non, Ru.iv_non, Ru.lk_mv, Ru.cp_mv, Ru.iv_mv, Ru.lk_bin, Ru.cp_bin, Ru.iv_bin, Ru.lk_neg, Ru.cp_neg, Ru.iv_neg, Ru.lk_cmp, Ru.cp_cmp, Ru.iv_cmp, Ru.lk_chain, Ru.cp_chain, Ru.iv_chain, Ru.lk_isN, Ru.cp_isN, Ru.iv_isN, Ru.lk_and, Ru.cp_and, Ru.iv_and, Ru.lk_or, Ru.cp_or, Ru.iv_or, Ru.lk_not, Ru.cp_not, Ru.iv_not, Ru.lk_ife, Ru.cp_ife, Ru.iv_ife, Ru.lk_lst, Ru.cp_lst, Ru.iv_lst, Ru.lk_tup, Ru.cp_tup, Ru.iv_tup, Ru.lk_dK0, Ru.cp_dK0, Ru.iv_dK0, Ru.lk_dT0, Ru.cp_dT0, Ru.iv_dT0, Ru.lk_ix, Ru.cp_ix, Ru.iv_ix, Ru.lk_slc, Ru.cp_slc, Ru.iv_slc, Ru.lk_fld, Ru.cp_fld, Ru.iv_fld, Ru.lk_call, Ru.cp_call, Ru.iv_call, Ru.lk_mk, Ru.cp_mk, Ru.iv_mk, Ru.lk_meth, Ru.cp_meth, Ru.iv_meth, Ru.lk_bi, Ru.cp_bi, Ru.iv_bi, Ru.lk_isI, Ru.cp_isI, Ru.iv_isI, Ru.lk_pop, Ru.cp_pop, Ru.iv_pop, Ru.lk_popAt, Ru.cp_popAt, Ru.iv_popAt, Ru.lk_compR, Ru.cp_compR, Ru.iv_compR, Ru.lk_compL, Ru.cp_compL, Ru.iv_compL, Ru.lk_sh, Ru.cp_sh, Ru.iv_sh, Ru.iv_var, Ru.lk_var, Ru.cp_var, Ru.cpS_dp, Ru.cpS_fz, Ru.cpS_rt, Ru.rdS_s, Ru.mvS_s, Ru.ef_int, Ru.ef_str, Ru.ef_bl, Ru.ef_non, Ru.ef_mv, Ru.ef_bin, Ru.ef_neg, Ru.ef_cmp, Ru.ef_chain, Ru.ef_isN, Ru.ef_and, Ru.ef_or, Ru.ef_not, Ru.ef_ife, Ru.ef_lst, Ru.ef_tup, Ru.ef_dK0, Ru.ef_dT0, Ru.ef_ix, Ru.ef_slc, Ru.ef_fld, Ru.ef_call, Ru.ef_mk, Ru.ef_meth, Ru.ef_bi, Ru.ef_isI, Ru.ef_pop, Ru.ef_popAt, Ru.ef_compR, Ru.ef_compL, Ru.ef_sh, Ru.ef_var, Ru.ef_nil, Ru.ef_cons, Ru.kept_eq, Ru.pr_non, Ru.im_non, Ru.kd_non, Ru.pr_bl, Ru.im_bl, Ru.kd_bl, Ru.pr_int, Ru.im_int, Ru.kd_int, Ru.pr_str, Ru.im_str, Ru.kd_str, Ru.pr_lst, Ru.im_lst, Ru.pr_tup, Ru.pr_ins, Ru.im_ins, Ru.pr_dK, Ru.im_dK, Ru.pr_dT, Ru.im_dT, Ru.im_tup, Ru.kd_lst, Ru.kd_tup, Ru.kd_ins, Ru.kd_dK, Ru.kd_dT, Ru.iml_nil, Ru.iml_cons, Ru.iml_app, Ru.iml_int, Ru.iml_pr, Ru.e_int, Ru.e_str, Ru.e_bl, Ru.e_non, Ru.e_mv, Ru.e_bin, Ru.e_neg, Ru.e_cmp, Ru.e_and, Ru.e_or, Ru.e_not, Ru.e_ife, Ru.e_lst, Ru.e_tup, Ru.e_dK0, Ru.e_dT0, Ru.e_ix, Ru.e_slc, Ru.e_fld, Ru.e_call, Ru.e_mk, Ru.e_meth, Ru.e_bi, Ru.e_isI, Ru.e_pop, Ru.e_popAt, Ru.e_compR, Ru.e_compL, Ru.e_sh, Ru.e_var, Ru.t_chain, Ru.t_isN, Ru.t_cmp, Ru.t_and, Ru.t_or, Ru.t_not, Ru.t_var, Ru.t_bl, Ru.t_call, Ru.t_ix, Ru.t_ife, Ru.t_isI, Ru.t_meth, Ru.t_fld, Ru.t_bi, Ru.and_n, Ru.or_n, Ru.and_c, Ru.or_c, Ru.l_nil, Ru.l_cons, Ru.p_nil, Ru.p_cons, Ru.k_nil, Ru.k_cons, Ru.a_nil, Ru.a_var, Ru.a_int, Ru.a_str, Ru.a_bl, Ru.a_non, Ru.a_mv, Ru.a_bin, Ru.a_neg, Ru.a_cmp, Ru.a_chain, Ru.a_isN, Ru.a_and, Ru.a_or, Ru.a_not, Ru.a_ife, Ru.a_lst, Ru.a_tup, Ru.a_dK0, Ru.a_dT0, Ru.a_ix, Ru.a_slc, Ru.a_fld, Ru.a_call, Ru.a_mk, Ru.a_meth, Ru.a_bi, Ru.a_isI, Ru.a_pop, Ru.a_popAt, Ru.a_compR, Ru.a_compL, Ru.a_sh, Ru.i_nil, Ru.i_cons, Ru.ss_nil, Ru.ss_cons, Ru.s_set', Ru.s_setT', Ru.s_aug', Ru.s_setIx', Ru.s_setK', Ru.s_augIx', Ru.s_app', Ru.s_expr', Ru.s_ret', Ru.s_retN', Ru.s_ife', Ru.s_raise', Ru.s_brk', Ru.s_cnt', Ru.s_pass', Ru.s_forR', Ru.s_forL', Ru.s_setF', Ru.s_tri', Ru.opt_s, Ru.opt_n, Ru.bdT_ok, Ru.bdT_exc, Ru.fdT_ok, Ru.fdT_exc, Ru.sqT_nx, Ru.sqT_ret, Ru.sqT_exc, Ru.sqT_brk, Ru.sqT_cnt, Ru.sqT_if, Ru.fdT_if, Ru.bdT_if, Ru.ite_ok, Ru.ite_oki, Ru.bn_add, Ru.bn_sub, Ru.bn_mul, Ru.bn_fdiv, Ru.bn_mod, Ru.bn_pow, Ru.bn_addl, Ru.bn_mull, Ru.na2, Ru.na10, Ru.small_eq, Ru.cm_eq, Ru.cm_ne, Ru.cm_lt, Ru.cm_le, Ru.cm_gt, Ru.cm_ge, Ru.ix_lst, Ru.ix_tup, Ru.slc_lst, Ru.it_m, Ru.ls_m, Ru.bi_len_l, Ru.bi_len_t, Ru.bi_len_k, Ru.bi_abs, Ru.bi_int, Ru.bi_max2, Ru.bi_min2, Ru.bi_list, Ru.bi_listt, Ru.bi_sum, Ru.bi_max, Ru.bi_min, Ru.lstOf_n, Ru.lstOf_c, Ru.tupOf_eq, Ru.cpb_len, Ru.cpb_abs, Ru.cpb_int, Ru.cpb_sum, Ru.cpb_max1, Ru.cpb_min1, Ru.cpb_max2, Ru.cpb_min2, Ru.cpb_all, Ru.cpb_any, Ru.cpb_list, Ru.cpb_sorted, Ru.is_bl_int, Ru.is_bl_bool, Ru.is_bl_str, Ru.is_bl_list, Ru.is_bl_tuple, Ru.is_bl_dict, Ru.is_int_int, Ru.is_int_bool, Ru.is_int_str, Ru.is_int_list, Ru.is_int_tuple, Ru.is_int_dict, Ru.is_str_int, Ru.is_str_bool, Ru.is_str_str, Ru.is_str_list, Ru.is_str_tuple, Ru.is_str_dict, Ru.is_lst_int, Ru.is_lst_bool, Ru.is_lst_str, Ru.is_lst_list, Ru.is_lst_tuple, Ru.is_lst_dict, Ru.is_tup_int, Ru.is_tup_bool, Ru.is_tup_str, Ru.is_tup_list, Ru.is_tup_tuple, Ru.is_tup_dict, Ru.is_non_int, Ru.is_non_bool, Ru.is_non_str, Ru.is_non_list, Ru.is_non_tuple, Ru.is_non_dict, Ru.is_dK_int, Ru.is_dK_bool, Ru.is_dK_str, Ru.is_dK_list, Ru.is_dK_tuple, Ru.is_dK_dict, Ru.is_dT_int, Ru.is_dT_bool, Ru.is_dT_str, Ru.is_dT_list, Ru.is_dT_tuple, Ru.is_dT_dict, Ru.no_bl, Ru.no_int, Ru.no_str, Ru.no_lst, Ru.no_tup, Ru.no_ins, Ru.no_dK, Ru.no_dT, Ru.no_non, Ru.trD_bl, Ru.negD_i, Ru.partD_i, Ru.bndO_s, Ru.bo_f, Ru.bo_t, Ru.bt_n, Ru.bt_c, Ru.augA_i, Ru.augB_i, Ru.isLst_l, Ru.setIx_i, Ru.augC_i, Ru.putS_dp, Ru.putS_rt, Ru.appD_dp, Ru.appD_rt, Ru.forR_s, Ru.forL_l, Ru.forL_t, Ru.bndT_eq, Ru.bndQ_s, Ru.augQ_i, Ru.cmpR_s, Ru.cmpL_s, Ru.cturn_s, Ru.wipe_n, Ru.wipe_c, Ru.rng1, Ru.rng2, Ru.ad_nil, Ru.ad_cons, Ru.ag_slf, Ru.ag_slt, Ru.ag_vlf, Ru.ag_vlt, Ru.call_eq, Ru.ok_nil, Ru.ok_f, Ru.ok_v, Ru.ok_t, Ru.cs_nil, Ru.cs_s, Ru.cs_v, Ru.cb_ok, Ru.cb_exc, Ru.pu_nil, Ru.pu_v, Ru.pu_t, Ru.pu_f, Ru.at1_0, Ru.xn1_0, Ru.at2_0, Ru.xn2_0, Ru.at2_1, Ru.xn2_1, Ru.at3_0, Ru.xn3_0, Ru.at3_1, Ru.xn3_1, Ru.at3_2, Ru.xn3_2, Ru.at4_0, Ru.xn4_0, Ru.at4_1, Ru.xn4_1, Ru.at4_2, Ru.xn4_2, Ru.at4_3, Ru.xn4_3, Ru.at5_0, Ru.xn5_0, Ru.at5_1, Ru.xn5_1, Ru.at5_2, Ru.xn5_2, Ru.at5_3, Ru.xn5_3, Ru.at5_4, Ru.xn5_4, Ru.at6_0, Ru.xn6_0, Ru.at6_1, Ru.xn6_1, Ru.at6_2, Ru.xn6_2, Ru.at6_3, Ru.xn6_3, Ru.at6_4, Ru.xn6_4, Ru.at6_5, Ru.xn6_5, Ru.popK_i, Ru.ix_dK, Ru.ix_dT, Ru.bi_listK, Ru.bi_listT, Ru.key_i, Ru.key_s, Ru.keys_n, Ru.keys_c, Ru.isDic_K, Ru.isDic_T, Ru.inn_dK, Ru.inn_dT, Ru.cm_innK, Ru.cm_innT, Ru.cm_ninK, Ru.cm_ninT, Ru.putC_eq, Ru.putCK_dp, Ru.putCK_rt, Ru.putCT_dp, Ru.putCT_rt, Ru.imk_n, Ru.imk_c, Ru.fld_i, Ru.setF_dp, Ru.setF_rt, Ru.mk_eq, Ru.mb_ok, Ru.mb_exc, Ru.mb1_s, Ru.head0, Ru.methQ_i, Ru.methC_s, Ru.imf_n, Ru.imf_c, Ru.lkN, Ru.end_ret, Ru.end_nx, Ru.end_exc, Ru.endO_s, Ru.ol_n, Ru.ol_t, Ru.ol_f, Ru.tri_nx, Ru.tri_ret, Ru.tri_exc, Ru.clO_n, Ru.clO_s, Ru.clO_s0, Ru.hxO_s, Ru.cla_n, Ru.cla_c, Ru.oneF_1, Ru.hx_int, Ru.hx_str, Ru.hx_bl, Ru.hx_non, Ru.hx_fld, Ru.hx_tup, Ru.hxl_n, Ru.hxl_c, Ru.end_if, Ru.tri_if, Ru.cb_if, Ru.opt_if, Ru.ite_tf, Ru.ite_bf, Ru.ite_tb, Ru.turn_nx, Ru.turn_cnt, Ru.turn_brk, Ru.turn_ret, Ru.turn_exc, Ru.cmp_bl_eq, Ru.cmp_bl_ne, Ru.iml_range, Ru.lstOf_dp, Ru.cp_arg, Ru.cp_argt, Ru.rep_map, Ru.fgo_nil, Ru.fgo_cons, Ru.fnext_nx, Ru.fnext_cnt, Ru.fnext_brk, Ru.fnext_ret, Ru.fnext_exc, Ru.rep_len, Ru.rep_one, Ru.iml_repi, List.length_replicate, Ru.bi_max_2, Ru.bi_min_2, Ru.bi_sorted, LW.io0, LW.io1, LW.io2, LW.io3, LW.io4, LW.io5, LW.io6, LW.io7, LW.io8, LW.io9, LW.io10, LW.io11, LW.io12, LW.io13, LW.io14, LW.io15, LW.io16, LW.io17, LW.io18, LW.io19, LW.io20, LW.io21, LW.io22, LW.io23, LW.io24, LW.io25, LW.io26, LW.io27, LW.io28, LW.io29, LW.io30, LW.io31, LW.io32, LW.io33, LW.io34, LW.io35, LW.io36, LW.io37, LW.io38, LW.io39, LW.io40, LW.io41, LW.io42, LW.ef1, LW.ek1, LW.ef2, LW.ek2, LW.ef3, LW.ek3, LW.ef4, LW.ek4, LW.ef5, LW.ek5, LW.fo6_a0, LW.fo6_a1, LW.fo6_g0, LW.fo6_g1, LW.lo6_a0, LW.pa6_a0, LW.pu6_a0, LW.lo6_a1, LW.pa6_a1, LW.pu6_a1, LW.lo6_g0, LW.pa6_g0, LW.pu6_g0, LW.lo6_g1, LW.pa6_g1, LW.pu6_g1, LW.mt6_quick, LW.lm6_quick, LW.mt6_slow, LW.lm6_slow, LW.mt6_ready, LW.lm6_ready, LW.mt6_dull, LW.lm6_dull, LW.in6, if_true, if_false, Bool.or_false, Bool.or_true, Bool.false_or, Bool.true_or, Bool.and_true, Bool.true_and, Bool.and_false, Bool.false_and, Bool.not_true, Bool.not_false, Bool.not_not, decide_true, decide_false, decide_eq_true_eq, Bool.false_eq_true, Option.map_some, Option.bind_some, Option.map_none, List.length_map, List.length_range, Int.toNat_natCast, Int.cast_ofNat_Int, List.map_cons, List.map_nil, List.all_cons, List.all_nil, List.length_cons, List.length_nil, List.cons_append, List.nil_append, Nat.zero_add, Int.zero_add, and_self, and_true, true_and, or_true, true_or, or_false, false_or, Bool.and_eq_true, Bool.or_eq_true, Bool.not_eq_true, Bool.not_eq_eq_eq_not, Nat.reduceAdd, Nat.reduceBEq, Nat.reduceLeDiff, Nat.reduceEqDiff, Int.reduceNeg, Int.reduceLT, Int.reduceLE, Int.reduceAdd, Int.reduceSub, Int.reduceMul, Int.reduceEq, Int.reduceToNat, Int.reducePow, Nat.reducePow, Nat.reduceMul, List.any_cons, List.any_nil, id_eq, Nat.reduceLT, Int.natAbs_natCast, beq_self_eq_true, reduceCtorEq, ne_eq, Bool.true_eq_false, Bool.and_self, Bool.or_self, not_true_eq_false, not_false_eq_true, Bool.decide_and, Bool.decide_or, *])
local macro_rules | `(tactic| walk_at "go") => `(tactic| simp -implicitDefEqProofs (disch := (first | assumption | (simp only [Ru.sk_non, Ru.sk_bl, Ru.sk_int, Ru.sk_lst, Ru.sk_tup, Ru.sk_ints, Ru.sk_prs, List.all_cons, List.all_nil, Bool.and_self, Bool.and_true, Bool.true_and, id_eq, List.length_map, List.length_append, List.length_cons, List.length_nil, List.length_range, List.length_replicate, List.length_eraseIdx] <;> first | omega | decide +kernel) | omega | decide +kernel)) only [↓Ru.bd_eq, ↓Ru.fd_eq, ↓Ru.sq_eq, ↓Ru.forR_eq, ↓Ru.forL_eq, ↓Ru.augIx_eq, ↓Ru.cmpR_eq, ↓Ru.cmpL_eq, ↓Ru.methT_eq, Ru.sl0, Ru.st0, Ru.sl1, Ru.st1, Ru.sl2, Ru.st2, Ru.sl3, Ru.st3, Ru.sl4, Ru.st4, Ru.sl5, Ru.st5, Ru.sl6, Ru.st6, Ru.sl7, Ru.st7, Ru.sl8, Ru.st8, Ru.sl9, Ru.st9, Ru.sl10, Ru.st10, Ru.sl11, Ru.st11, Ru.sl12, Ru.st12, Ru.sl13, Ru.st13, Ru.sl14, Ru.st14, Ru.sl15, Ru.st15, Ru.sl16, Ru.st16, Ru.sl17, Ru.st17, Ru.sl18, Ru.st18, Ru.sl19, Ru.st19, Ru.sl20, Ru.st20, Ru.sl21, Ru.st21, Ru.sl22, Ru.st22, Ru.sl23, Ru.st23, Ru.lk_int, Ru.cp_int, Ru.iv_int, Ru.lk_str, Ru.cp_str, Ru.iv_str, Ru.lk_bl, Ru.cp_bl, Ru.iv_bl, Ru.lk_non, Ru.cp_non, Ru.iv_non, Ru.lk_mv, Ru.cp_mv, Ru.iv_mv, Ru.lk_bin, Ru.cp_bin, Ru.iv_bin, Ru.lk_neg, Ru.cp_neg, Ru.iv_neg, Ru.lk_cmp, Ru.cp_cmp, Ru.iv_cmp, Ru.lk_chain, Ru.cp_chain, Ru.iv_chain, Ru.lk_isN, Ru.cp_isN, Ru.iv_isN, Ru.lk_and, Ru.cp_and, Ru.iv_and, Ru.lk_or, Ru.cp_or, Ru.iv_or, Ru.lk_not, Ru.cp_not, Ru.iv_not, Ru.lk_ife, Ru.cp_ife, Ru.iv_ife, Ru.lk_lst, Ru.cp_lst, Ru.iv_lst, Ru.lk_tup, Ru.cp_tup, Ru.iv_tup, Ru.lk_dK0, Ru.cp_dK0, Ru.iv_dK0, Ru.lk_dT0, Ru.cp_dT0, Ru.iv_dT0, Ru.lk_ix, Ru.cp_ix, Ru.iv_ix, Ru.lk_slc, Ru.cp_slc, Ru.iv_slc, Ru.lk_fld, Ru.cp_fld, Ru.iv_fld, Ru.lk_call, Ru.cp_call, Ru.iv_call, Ru.lk_mk, Ru.cp_mk, Ru.iv_mk, Ru.lk_meth, Ru.cp_meth, Ru.iv_meth, Ru.lk_bi, Ru.cp_bi, Ru.iv_bi, Ru.lk_isI, Ru.cp_isI, Ru.iv_isI, Ru.lk_pop, Ru.cp_pop, Ru.iv_pop, Ru.lk_popAt, Ru.cp_popAt, Ru.iv_popAt, Ru.lk_compR, Ru.cp_compR, Ru.iv_compR, Ru.lk_compL, Ru.cp_compL, Ru.iv_compL, Ru.lk_sh, Ru.cp_sh, Ru.iv_sh, Ru.iv_var, Ru.lk_var, Ru.cp_var, Ru.cpS_dp, Ru.cpS_fz, Ru.cpS_rt, Ru.rdS_s, Ru.mvS_s, Ru.ef_int, Ru.ef_str, Ru.ef_bl, Ru.ef_non, Ru.ef_mv, Ru.ef_bin, Ru.ef_neg, Ru.ef_cmp, Ru.ef_chain, Ru.ef_isN, Ru.ef_and, Ru.ef_or, Ru.ef_not, Ru.ef_ife, Ru.ef_lst, Ru.ef_tup, Ru.ef_dK0, Ru.ef_dT0, Ru.ef_ix, Ru.ef_slc, Ru.ef_fld, Ru.ef_call, Ru.ef_mk, Ru.ef_meth, Ru.ef_bi, Ru.ef_isI, Ru.ef_pop, Ru.ef_popAt, Ru.ef_compR, Ru.ef_compL, Ru.ef_sh, Ru.ef_var, Ru.ef_nil, Ru.ef_cons, Ru.kept_eq, Ru.pr_non, Ru.im_non, Ru.kd_non, Ru.pr_bl, Ru.im_bl, Ru.kd_bl, Ru.pr_int, Ru.im_int, Ru.kd_int, Ru.pr_str, Ru.im_str, Ru.kd_str, Ru.pr_lst, Ru.im_lst, Ru.pr_tup, Ru.pr_ins, Ru.im_ins, Ru.pr_dK, Ru.im_dK, Ru.pr_dT, Ru.im_dT, Ru.im_tup, Ru.kd_lst, Ru.kd_tup, Ru.kd_ins, Ru.kd_dK, Ru.kd_dT, Ru.iml_nil, Ru.iml_cons, Ru.iml_app, Ru.iml_int, Ru.iml_pr, Ru.e_int, Ru.e_str, Ru.e_bl, Ru.e_non, Ru.e_mv, Ru.e_bin, Ru.e_neg, Ru.e_cmp, Ru.e_and, Ru.e_or, Ru.e_not, Ru.e_ife, Ru.e_lst, Ru.e_tup, Ru.e_dK0, Ru.e_dT0, Ru.e_ix, Ru.e_slc, Ru.e_fld, Ru.e_call, Ru.e_mk, Ru.e_meth, Ru.e_bi, Ru.e_isI, Ru.e_pop, Ru.e_popAt, Ru.e_compR, Ru.e_compL, Ru.e_sh, Ru.e_var, Ru.t_chain, Ru.t_isN, Ru.t_cmp, Ru.t_and, Ru.t_or, Ru.t_not, Ru.t_var, Ru.t_bl, Ru.t_call, Ru.t_ix, Ru.t_ife, Ru.t_isI, Ru.t_meth, Ru.t_fld, Ru.t_bi, Ru.and_n, Ru.or_n, Ru.and_c, Ru.or_c, Ru.l_nil, Ru.l_cons, Ru.p_nil, Ru.p_cons, Ru.k_nil, Ru.k_cons, Ru.a_nil, Ru.a_var, Ru.a_int, Ru.a_str, Ru.a_bl, Ru.a_non, Ru.a_mv, Ru.a_bin, Ru.a_neg, Ru.a_cmp, Ru.a_chain, Ru.a_isN, Ru.a_and, Ru.a_or, Ru.a_not, Ru.a_ife, Ru.a_lst, Ru.a_tup, Ru.a_dK0, Ru.a_dT0, Ru.a_ix, Ru.a_slc, Ru.a_fld, Ru.a_call, Ru.a_mk, Ru.a_meth, Ru.a_bi, Ru.a_isI, Ru.a_pop, Ru.a_popAt, Ru.a_compR, Ru.a_compL, Ru.a_sh, Ru.i_nil, Ru.i_cons, Ru.ss_nil, Ru.ss_cons, Ru.s_set', Ru.s_setT', Ru.s_aug', Ru.s_setIx', Ru.s_setK', Ru.s_augIx', Ru.s_app', Ru.s_expr', Ru.s_ret', Ru.s_retN', Ru.s_ife', Ru.s_raise', Ru.s_brk', Ru.s_cnt', Ru.s_pass', Ru.s_forR', Ru.s_forL', Ru.s_setF', Ru.s_tri', Ru.opt_s, Ru.opt_n, Ru.bdT_ok, Ru.bdT_exc, Ru.fdT_ok, Ru.fdT_exc, Ru.sqT_nx, Ru.sqT_ret, Ru.sqT_exc, Ru.sqT_brk, Ru.sqT_cnt, Ru.sqT_if, Ru.fdT_if, Ru.bdT_if, Ru.ite_ok, Ru.ite_oki, Ru.bn_add, Ru.bn_sub, Ru.bn_pow, Ru.na2, Ru.na10, Ru.cm_eq, Ru.cm_ne, Ru.cm_lt, Ru.cm_le, Ru.cm_gt, Ru.cm_ge, Ru.ix_lst, Ru.ix_tup, Ru.slc_lst, Ru.it_m, Ru.ls_m, Ru.bi_len_l, Ru.bi_len_t, Ru.bi_len_k, Ru.bi_abs, Ru.bi_int, Ru.bi_list, Ru.bi_listt, Ru.bi_sum, Ru.bi_max, Ru.bi_min, Ru.lstOf_n, Ru.tupOf_eq, Ru.cpb_len, Ru.cpb_abs, Ru.cpb_int, Ru.cpb_sum, Ru.cpb_max1, Ru.cpb_min1, Ru.cpb_max2, Ru.cpb_min2, Ru.cpb_all, Ru.cpb_any, Ru.cpb_list, Ru.cpb_sorted, Ru.is_bl_int, Ru.is_bl_bool, Ru.is_bl_str, Ru.is_bl_list, Ru.is_bl_tuple, Ru.is_bl_dict, Ru.is_int_int, Ru.is_int_bool, Ru.is_int_str, Ru.is_int_list, Ru.is_int_tuple, Ru.is_int_dict, Ru.is_str_int, Ru.is_str_bool, Ru.is_str_str, Ru.is_str_list, Ru.is_str_tuple, Ru.is_str_dict, Ru.is_lst_int, Ru.is_lst_bool, Ru.is_lst_str, Ru.is_lst_list, Ru.is_lst_tuple, Ru.is_lst_dict, Ru.is_tup_int, Ru.is_tup_bool, Ru.is_tup_str, Ru.is_tup_list, Ru.is_tup_tuple, Ru.is_tup_dict, Ru.is_non_int, Ru.is_non_bool, Ru.is_non_str, Ru.is_non_list, Ru.is_non_tuple, Ru.is_non_dict, Ru.is_dK_int, Ru.is_dK_bool, Ru.is_dK_str, Ru.is_dK_list, Ru.is_dK_tuple, Ru.is_dK_dict, Ru.is_dT_int, Ru.is_dT_bool, Ru.is_dT_str, Ru.is_dT_list, Ru.is_dT_tuple, Ru.is_dT_dict, Ru.no_bl, Ru.no_int, Ru.no_str, Ru.no_lst, Ru.no_tup, Ru.no_ins, Ru.no_dK, Ru.no_dT, Ru.no_non, Ru.trD_bl, Ru.negD_i, Ru.partD_i, Ru.bndO_s, Ru.bo_f, Ru.bo_t, Ru.bt_n, Ru.bt_c, Ru.augA_i, Ru.augB_i, Ru.isLst_l, Ru.setIx_i, Ru.augC_i, Ru.putS_dp, Ru.putS_rt, Ru.forR_s, Ru.forL_l, Ru.forL_t, Ru.bndT_eq, Ru.bndQ_s, Ru.augQ_i, Ru.cmpR_s, Ru.cmpL_s, Ru.cturn_s, Ru.wipe_n, Ru.wipe_c, Ru.ad_nil, Ru.ad_cons, Ru.ag_slf, Ru.ag_slt, Ru.ag_vlf, Ru.ag_vlt, Ru.call_eq, Ru.ok_nil, Ru.ok_f, Ru.ok_v, Ru.ok_t, Ru.cs_nil, Ru.cs_s, Ru.cs_v, Ru.cb_ok, Ru.cb_exc, Ru.pu_nil, Ru.pu_v, Ru.pu_t, Ru.pu_f, Ru.at1_0, Ru.xn1_0, Ru.at2_0, Ru.xn2_0, Ru.at2_1, Ru.xn2_1, Ru.at3_0, Ru.xn3_0, Ru.at3_1, Ru.xn3_1, Ru.at3_2, Ru.xn3_2, Ru.at4_0, Ru.xn4_0, Ru.at4_1, Ru.xn4_1, Ru.at4_2, Ru.xn4_2, Ru.at4_3, Ru.xn4_3, Ru.at5_0, Ru.xn5_0, Ru.at5_1, Ru.xn5_1, Ru.at5_2, Ru.xn5_2, Ru.at5_3, Ru.xn5_3, Ru.at5_4, Ru.xn5_4, Ru.at6_0, Ru.xn6_0, Ru.at6_1, Ru.xn6_1, Ru.at6_2, Ru.xn6_2, Ru.at6_3, Ru.xn6_3, Ru.at6_4, Ru.xn6_4, Ru.at6_5, Ru.xn6_5, Ru.popK_i, Ru.ix_dK, Ru.ix_dT, Ru.bi_listK, Ru.bi_listT, Ru.key_i, Ru.key_s, Ru.keys_n, Ru.keys_c, Ru.isDic_K, Ru.isDic_T, Ru.inn_dK, Ru.inn_dT, Ru.cm_innK, Ru.cm_innT, Ru.cm_ninK, Ru.cm_ninT, Ru.putC_eq, Ru.putCK_dp, Ru.putCK_rt, Ru.putCT_dp, Ru.putCT_rt, Ru.imk_n, Ru.imk_c, Ru.fld_i, Ru.setF_dp, Ru.setF_rt, Ru.mk_eq, Ru.mb_ok, Ru.mb_exc, Ru.mb1_s, Ru.head0, Ru.methQ_i, Ru.methC_s, Ru.imf_n, Ru.imf_c, Ru.lkN, Ru.end_ret, Ru.end_nx, Ru.end_exc, Ru.endO_s, Ru.ol_n, Ru.ol_t, Ru.ol_f, Ru.tri_nx, Ru.tri_ret, Ru.tri_exc, Ru.clO_n, Ru.clO_s, Ru.clO_s0, Ru.hxO_s, Ru.cla_n, Ru.cla_c, Ru.oneF_1, Ru.hx_int, Ru.hx_str, Ru.hx_bl, Ru.hx_non, Ru.hx_fld, Ru.hx_tup, Ru.hxl_n, Ru.hxl_c, Ru.end_if, Ru.tri_if, Ru.cb_if, Ru.opt_if, Ru.ite_tf, Ru.ite_bf, Ru.ite_tb, Ru.turn_nx, Ru.turn_cnt, Ru.turn_brk, Ru.turn_ret, Ru.turn_exc, Ru.cmp_bl_eq, Ru.cmp_bl_ne, Ru.iml_range, Ru.lstOf_dp, Ru.cp_arg, Ru.cp_argt, Ru.fgo_nil, Ru.fgo_cons, Ru.fnext_nx, Ru.fnext_cnt, Ru.fnext_brk, Ru.fnext_ret, Ru.fnext_exc, List.length_replicate, Ru.bi_sorted, LW.io0, LW.io1, LW.io2, LW.io3, LW.io4, LW.io5, LW.io6, LW.io7, LW.io8, LW.io9, LW.io10, LW.io11, LW.io12, LW.io13, LW.io14, LW.io15, LW.io16, LW.io17, LW.io18, LW.io19, LW.io20, LW.io21, LW.io22, LW.io23, LW.io24, LW.io25, LW.io26, LW.io27, LW.io28, LW.io29, LW.io30, LW.io31, LW.io32, LW.io33, LW.io34, LW.io35, LW.io36, LW.io37, LW.io38, LW.io39, LW.io40, LW.io41, LW.io42, LW.ef1, LW.ek1, LW.ef2, LW.ek2, LW.ef3, LW.ek3, LW.ef4, LW.ek4, LW.ef5, LW.ek5, LW.fo6_a0, LW.fo6_a1, LW.fo6_g0, LW.fo6_g1, LW.lo6_a0, LW.pa6_a0, LW.pu6_a0, LW.lo6_a1, LW.pa6_a1, LW.pu6_a1, LW.lo6_g0, LW.pa6_g0, LW.pu6_g0, LW.lo6_g1, LW.pa6_g1, LW.pu6_g1, LW.mt6_quick, LW.lm6_quick, LW.mt6_slow, LW.lm6_slow, LW.mt6_ready, LW.lm6_ready, LW.mt6_dull, LW.lm6_dull, LW.in6, if_true, if_false, Bool.or_false, Bool.or_true, Bool.false_or, Bool.true_or, Bool.and_true, Bool.true_and, Bool.and_false, Bool.false_and, Bool.not_true, Bool.not_false, Bool.not_not, decide_true, decide_false, decide_eq_true_eq, Bool.false_eq_true, Option.map_some, Option.bind_some, Option.map_none, List.length_map, List.length_range, Int.toNat_natCast, Int.cast_ofNat_Int, List.all_cons, List.all_nil, List.length_cons, List.length_nil, List.cons_append, List.nil_append, Nat.zero_add, Int.zero_add, and_self, and_true, true_and, or_true, true_or, or_false, false_or, Bool.and_eq_true, Bool.or_eq_true, Bool.not_eq_true, Bool.not_eq_eq_eq_not, Nat.reduceAdd, Nat.reduceBEq, Nat.reduceLeDiff, Nat.reduceEqDiff, Int.reduceNeg, Int.reduceLT, Int.reduceLE, Int.reduceAdd, Int.reduceSub, Int.reduceMul, Int.reduceEq, Int.reduceToNat, Int.reducePow, Nat.reducePow, Nat.reduceMul, List.any_cons, List.any_nil, id_eq, Nat.reduceLT, Int.natAbs_natCast, beq_self_eq_true, reduceCtorEq, ne_eq, Bool.true_eq_false, Bool.and_self, Bool.or_self, not_true_eq_false, not_false_eq_true, Bool.decide_and, Bool.decide_or, Ru.c_addi, Ru.c_addp, Ru.c_addl, Ru.c_mul0, Ru.cons_int, Ru.app_one, Ru.ixN_some, Ru.lstOf_cc, Ru.c_mod, Ru.c_fdiv, Ru.c_mul1, Ru.c_mul2, Ru.c_rng1, Ru.c_rng2, Ru.c_app_dp, Ru.c_app_rt, Ru.app_pr, Ru.app_int1, Ru.app_int2, Ru.app_int3, Ru.app_int4, Ru.app_intm, Ru.app_prm, Ru.map1_c, Ru.map1_n, Ru.all1_c, Ru.c_at, Ru.c_atk, Ru.c_at0, Ru.c_pop, Ru.c_cuthi, Ru.c_cutlo, Ru.d_lt_t, Ru.d_lt_f, Ru.d_le_t, Ru.d_le_f, Ru.d_eq_t, Ru.d_eq_f, Ru.d_ne_t, Ru.d_ne_f, Ru.i_lt_t, Ru.i_lt_f, Ru.i_le_t, Ru.i_le_f, Ru.i_eq_t, Ru.i_eq_f, Ru.s_eq_f, Ru.s_eq_t, Ru.n_lt_t, Ru.n_lt_f, Ru.n_le_t, Ru.n_le_f, Ru.sk_non, Ru.sk_bl, Ru.sk_int, Ru.sk_lst, Ru.sk_tup, Ru.sk_ints, Ru.sk_prs, Ru.k_eq, Ru.k_ne, Ru.k_in, Ru.k_nin, Ru.eq_ii, Ru.eq_ss, Ru.eq_bb, Ru.eq_nn, Ru.eq_ll, Ru.eq_tt, Ru.eqs_nn, Ru.eqs_cn, Ru.eqs_nc, Ru.eqs_cc, Ru.eqs_ints, Ru.eqs_prs, Ru.eq_ts, Ru.eq_tn, Ru.eq_nt, Ru.eq_ln, Ru.eq_in, Ru.eq_is, Ru.eq_si, Ru.eq_tl, Ru.eq_lt, Ru.any_int, Ru.any_pr, Ru.any_pr', Ru.list_map, Ru.bi_maxt4, Ru.bi_maxl2, Ru.bi_minl2, Ru.c_max2, Ru.c_min2, Ru.bi_sortI, Ru.cgo_M, Ru.dpl_eq, Ru.dpl_lst, Ru.cM_int, Ru.cM_bl, Ru.cM_pr, Ru.cF_int, Ru.cF_pr, Ru.cgo_nil, Ru.map_pr_id, Ru.map_id1, Ru.pr_eta, Ru.prD_ap, Ru.eqs_mn, Ru.eqs_nm, Ru.bls_map, Ru.bi_allB, Ru.bi_anyB, List.isEmpty_iff, Option.isSome_some, Option.isSome_none, List.getElem_cons_zero, List.getElem_cons_succ, decide_eq_false_iff_not, List.isEmpty_nil, List.map_nil, List.take_length, List.length_append, List.length_replicate, List.length_take, List.length_drop, Int.natCast_add, Int.natCast_one, Int.toNat_zero, Int.toNat_one, dite_true, *])
local macro_rules | `(tactic| walk_at "bin") => `(tactic| (repeat' (first | assumption | apply Ru.bin_app | exact Ru.bin_rep0 | exact Ru.bin_rep1 | exact Ru.bin_nil | apply Ru.bin_c0 | apply Ru.bin_c1)))
local macro_rules | `(tactic| walk_at "len") => `(tactic| first | omega | (simp only [List.length_append, List.length_replicate, List.length_cons, List.length_nil]; omega))
local macro_rules | `(tactic| walk_at "row") => `(tactic| ((try simp only [Ru.turn_if, Ru.turn_nx, Ru.turn_cnt]) <;> (repeat' (apply And.intro <;> intro _)) <;> (repeat' split) <;> (first | exact ⟨_, _, rfl, by walk_at "bin", by walk_at "len"⟩ | exact ⟨_, _, _, rfl, by walk_at "bin", by walk_at "len"⟩)))
namespace LW
open PySem PySem.Spec PyProof.Rows L2 VS Ru

theorem r1 (n : Nat) (i : Int) (m : Md) : VS.run P F (n+1) 1 [(.int i, m)] = .ok (.bl true, .dp) [] := (rfl)
theorem r2 (n : Nat) (v most : Int) (what : Str) : VS.run P F (n+2) 2 [(.int v, .dp), (.int most, .dp), (.str what, .dp)] = if most < v then .exc 1 [("what", .str what)] else .ok (.non, .dp) [] := by
  rw [un2]
  have h0 := r1 n
  dsimp only [f2]
  walk_at "ev"
/-- a row's items are 0 or 1 -/
def Bin (row : List Int) : Prop := ∀ x, x ∈ row → x = 0 ∨ x = 1
theorem r4 (n : Nat) (row : List Int) (h : Bin row) (hl : 0 < row.length) (hr' : (row.length : Int) < 1000000) : VS.run P F (n+2) 4 [(.lst (row.map .int), .fz)] = .ok (.non, .dp) [] := by
  rw [un4]
  have h0 := r1 n
  have hz : ¬ ((row.length : Int) = 0) := by omega
  have hr : -4611686018427387904 ≤ (row.length : Int) := by omega
  have hr2 : (row.length : Int) < 4611686018427387904 := by omega
  dsimp only [f4]
  walk_at "ev"
  refine forRange_wp (Q := fun o => endF _ (sqT o _ _) = _) (fun k ρ => ∃ x, ρ = [some (.lst (row.map .int), .fz), x]) ?_ ⟨_, rfl⟩ ?_
  · rintro k ρ hk ⟨x, rfl⟩
    have e : atI (row.map D.int) (k : Int) = some (.int (row[k])) := by rw [atI_get?]; simp [hk]
    have hb := h row[k] (List.getElem_mem hk)
    have hn : cmpD .nin (.int row[k]) (.tup [.int 0, .int 1]) = some false := by
      rcases hb with e | e <;> rw [e] <;> rfl
    walk_at "ev"
    exact ⟨_, rfl⟩
  · rintro ρ ⟨x, rfl⟩
    walk_at "ev"
theorem r4_empty (n : Nat) : VS.run P F (n+2) 4 [(.lst [], .fz)] = .exc 2 [("line", .str "empty")] := by
  rw [un4]
  dsimp only [f4]
  walk_at "ev"
/-- the first wrong item -/
theorem r4_bad (n : Nat) (row : List Int) (at' : Nat) (hat : at' < row.length) (h : ∀ k (hk : k < row.length), k < at' → row[k] = 0 ∨ row[k] = 1) (hw : row[at'] ≠ 0 ∧ row[at'] ≠ 1) (hr' : (row.length : Int) < 1000000) : VS.run P F (n+2) 4 [(.lst (row.map .int), .fz)] = .exc 2 [("line", .int at')] := by
  rw [un4]
  have h0 := r1 n
  have hz : ¬ ((row.length : Int) = 0) := by omega
  have hr : -4611686018427387904 ≤ (row.length : Int) := by omega
  have hr2 : (row.length : Int) < 4611686018427387904 := by omega
  dsimp only [f4]
  walk_at "ev"
  refine forRange_wp (Q := fun o => endF _ (sqT o _ _) = _) (fun k ρ => k ≤ at' ∧ ∃ x, ρ = [some (.lst (row.map .int), .fz), x]) ?_ ⟨Nat.zero_le _, _, rfl⟩ ?_
  · rintro k ρ hk ⟨hka, x, rfl⟩
    have e : atI (row.map D.int) (k : Int) = some (.int (row[k])) := by rw [atI_get?]; simp [hk]
    by_cases c : k = at'
    · subst c
      have hn : cmpD .nin (.int row[k]) (.tup [.int 0, .int 1]) = some true := by
        simp [cmpD, innD, flatD, memD, eqD, toP, PyData.eqv, hw.1, hw.2]
        simp [hw.1, hw.2, Ne.symm hw.1, Ne.symm hw.2]
      walk_at "ev"
    · have hb := h k hk (by omega)
      have hn : cmpD .nin (.int row[k]) (.tup [.int 0, .int 1]) = some false := by
        rcases hb with e | e <;> rw [e] <;> rfl
      walk_at "ev"
      exact ⟨by omega, _, rfl⟩
  · rintro ρ ⟨hka, x, rfl⟩
    omega
theorem r3 (n : Nat) (row : List Int) (most : Int) (h : Bin row) (hl : 0 < row.length) (hr' : (row.length : Int) < 1000000) (hm : (row.length : Int) ≤ most) : VS.run P F (n+3) 3 [(.lst (row.map .int), .fz), (.int most, .dp)] = .ok (.non, .dp) [] := by
  rw [un3]
  have e := r4 n row h hl hr'
  have hm' : ¬ most < (row.length : Int) := by omega
  dsimp only [f3]
  walk_at "ev"
theorem r3_many (n : Nat) (row : List D) (most : Int) (hm : most < (row.length : Int)) : VS.run P F (n+3) 3 [(.lst row, .fz), (.int most, .dp)] = .exc 1 [("what", .str "lines")] := by
  rw [un3]
  dsimp only [f3]
  walk_at "ev"
theorem r3_empty (n : Nat) (most : Int) (hm : 0 ≤ most) : VS.run P F (n+3) 3 [(.lst [], .fz), (.int most, .dp)] = .exc 2 [("line", .str "empty")] := by
  rw [un3]
  have e := r4_empty n
  have hm' : ¬ most < 0 := by omega
  dsimp only [f3]
  walk_at "ev"
theorem r3_bad (n : Nat) (row : List Int) (most : Int) (at' : Nat) (hat : at' < row.length) (h : ∀ k (hk : k < row.length), k < at' → row[k] = 0 ∨ row[k] = 1) (hw : row[at'] ≠ 0 ∧ row[at'] ≠ 1) (hr' : (row.length : Int) < 1000000) (hm : (row.length : Int) ≤ most) : VS.run P F (n+3) 3 [(.lst (row.map .int), .fz), (.int most, .dp)] = .exc 2 [("line", .int at')] := by
  rw [un3]
  have e := r4_bad n row at' hat h hw hr'
  have hm' : ¬ most < (row.length : Int) := by omega
  dsimp only [f3]
  walk_at "ev"

end LW
namespace LW
open PySem PySem.Spec PyProof.Rows L2 VS Ru

/-- a purse -/
abbrev Pu := Int × Int × Int
def PU (p : Pu) : D := .lst [.int p.1, .int p.2.1, .int p.2.2]
def drw (p : Pu) (many : Int) : Int × Pu :=
  if 0 < p.1 then (p.1 % many, (p.1 / many, p.2.1, p.2.2))
  else (((p.2.1 * 48271 + (p.2.2 + 1) * 69621) % 2147483647 * 16807 + (p.2.2 + 1) * 7919) % 2147483629 / 8 % many, (p.1, (p.2.1 * 48271 + (p.2.2 + 1) * 69621) % 2147483647, p.2.2 + 1))
theorem drw_lt (p : Pu) (many : Int) (h : 0 < many) : 0 ≤ (drw p many).1 ∧ (drw p many).1 < many := by
  unfold drw
  split
  · exact ⟨Int.emod_nonneg _ (by omega), Int.emod_lt_of_pos _ h⟩
  · exact ⟨Int.emod_nonneg _ (by omega), Int.emod_lt_of_pos _ h⟩
theorem imm_PU (p : Pu) : imm (PU p) = false := by simp [PU, imm]
theorem r16 (n : Nat) (p : Pu) (many : Int) (h : 0 < many) (h2 : many < 1073741824) : VS.run P F (n+1) 16 [(PU p, .dp), (.int many, .dp)] = .ok (.int (drw p many).1, .dp) [(0, (PU (drw p many).2, .dp))] := by
  rw [un16]
  dsimp only [f16, PU]
  by_cases c : 0 < p.1
  · have e : drw p many = (p.1 % many, (p.1 / many, p.2.1, p.2.2)) := by simp [drw, c]
    walk_at "ev"
  · have e : drw p many = (((p.2.1 * 48271 + (p.2.2 + 1) * 69621) % 2147483647 * 16807 + (p.2.2 + 1) * 7919) % 2147483629 / 8 % many, (p.1, (p.2.1 * 48271 + (p.2.2 + 1) * 69621) % 2147483647, p.2.2 + 1)) := by simp [drw, c]
    walk_at "ev"

end LW
namespace LW
open PySem PySem.Spec PyProof.Rows L2 VS Ru

def cellv (ns : List Int) (at' : Nat) : Int := if (at' : Int) < ns.length then ns.getD at' 0 else 31 * (ns.take 4).sum
def sizev (c : Int) : Int := 2 * (if c < 0 then -c else c) + if c < 0 then 1 else 0
def pursev (ns : List Int) (at' : Nat) : Pu := (if 1000000000000000000 ≤ sizev (cellv ns at') then sizev (cellv ns at') else 0, (sizev (cellv ns at') + at' * 104729 + 12345) % 2147483629, at')
theorem r15 (n : Nat) (ns : List Int) (at' : Nat) (hs : ns.length < 1000) : VS.run P F (n+1) 15 [(.lst (ns.map .int), .fz), (.int at', .dp)] = .ok (PU (pursev ns at'), .dp) [] := by
  rw [un15]
  dsimp only [f15]
  by_cases c : (at' : Int) < ns.length
  · have hc : at' < ns.length := by omega
    have e : atI (ns.map D.int) (at' : Int) = some (.int (ns.getD at' 0)) := by rw [atI_get?]; simp [hc]
    have cv : cellv ns at' = ns.getD at' 0 := by simp [cellv, c]
    walk_at "ev"
    simp only [pursev, cv, PU, sizev]
  · have cv : cellv ns at' = 31 * (ns.take 4).sum := by simp [cellv, c]
    have cut := cut_hi (xs := ns.map D.int) (k := 4)
    rw [← List.map_take] at cut
    have cut' : VS.cutD (ns.map D.int) none (some 4) = (ns.take 4).map D.int := cut
    walk_at "ev"
    rw [cgo_all (h := D.int) (fun a _ => by walk_at "ev") (by simp; omega)]
    walk_at "ev"
    simp only [pursev, cv, PU, sizev]

end LW
namespace LW
open PySem PySem.Spec PyProof.Rows L2 VS Ru

/-- a line is open -/
def ln (row : List Int) (k : Nat) : Bool := decide (row[k]? = some 1)
def optD : Option Nat → D
  | none => .non
  | some k => .int k
def runD (r : Nat → Bool) (t : Nat) : D := .tup [.int (Vo.op r t), optD (Vo.cl r t)]
theorem imm_optD (o : Option Nat) : imm (optD o) = true := by cases o <;> simp [optD, imm]
theorem imm_runD (r : Nat → Bool) (t : Nat) : imm (runD r t) = true := by simp [runD, imm, immL, imm_optD]
theorem range_snoc {α : Type} (f : Nat → α) (k : Nat) : (List.range k).map f ++ [f k] = (List.range (k + 1)).map f := by rw [List.range_succ, List.map_append]; rfl
theorem r9 (n : Nat) (row : List Int) (past : Nat) (hs : (row.length : Int) + past < 1000000) : VS.run P F (n+1) 9 [(.lst (row.map .int), .fz), (.int past, .dp)] = .ok (.lst ((List.range (row.length + past + 1)).map (runD (ln row))), .dp) [] := by
  rw [un9]
  have hr1 : (row.length : Int) + past + 1 < 4611686018427387904 := by omega
  have hr2 : -4611686018427387904 ≤ (row.length : Int) + past + 1 := by omega
  dsimp only [f9]
  walk_at "ev"
  have hn : ((row.length : Int) + past + 1 - 1).toNat = row.length + past := by omega
  rw [hn]
  refine forRange_wp (Q := fun o => endF _ (sqT o _ _) = _) (fun k ρ => ∃ x, ρ = [some (.lst (row.map .int), .fz), some (.int past, .dp), some (.lst ((List.range (k + 1)).map (runD (ln row))), .dp), some (.int (Vo.op (ln row) k), .dp), some (optD (Vo.cl (ln row) k), .dp), x]) ?_ ⟨none, ?_⟩ ?_
  · rintro k ρ hk ⟨x, rfl⟩
    have hlen : k + 1 < 16777216 := by omega
    have ho : ((Vo.op (ln row) k : Nat) : Int) + 1 = ((Vo.op (ln row) k + 1 : Nat) : Int) := by omega
    have sn := (range_snoc (runD (ln row)) (k + 1)).symm
    by_cases c : k < row.length
    · have c1 : 1 + (k : Int) ≤ (row.length : Int) := by omega
      have e : atI (row.map D.int) (1 + (k : Int) - 1) = some (.int (row[k])) := by rw [atI_of (j := k) (by omega)]; simp [c]
      by_cases c2 : row[k] = 1
      · have l : ln row k = true := by simp [ln, c, c2]
        have sn' : runD (ln row) (k + 1) = .tup [.int ((Vo.op (ln row) k + 1 : Nat) : Int), .int 0] := by simp [runD, Vo.op, Vo.cl, l, optD]
        have so : Vo.op (ln row) (k + 1) = Vo.op (ln row) k + 1 := by simp [Vo.op, l]
        have sc : optD (Vo.cl (ln row) (k + 1)) = .int 0 := by simp [Vo.cl, l, optD]
        walk_at "ev"
        exact ⟨_, rfl⟩
      · have l : ln row k = false := by simp [ln, c, c2]
        have so : Vo.op (ln row) (k + 1) = 0 := by simp [Vo.op, l]
        cases hc : Vo.cl (ln row) k with
        | none =>
          have sn' : runD (ln row) (k + 1) = .tup [.int 0, .non] := by simp [runD, Vo.op, Vo.cl, l, optD, hc]
          have sc : Vo.cl (ln row) (k + 1) = none := by simp [Vo.cl, l, hc]
          have q : optD none = .non := rfl
          walk_at "ev"
          exact ⟨_, rfl⟩
        | some c0 =>
          have sn' : runD (ln row) (k + 1) = .tup [.int 0, .int ((c0 : Int) + 1)] := by simp [runD, Vo.op, Vo.cl, l, optD, hc]
          have sc : Vo.cl (ln row) (k + 1) = some (c0 + 1) := by simp [Vo.cl, l, hc]
          have q : optD (some c0) = .int c0 := rfl
          have q' : optD (some (c0 + 1)) = .int ((c0 : Int) + 1) := rfl
          walk_at "ev"
          exact ⟨_, rfl⟩
    · have c1 : ¬ 1 + (k : Int) ≤ (row.length : Int) := by omega
      have l : ln row k = false := by simp [ln, c]
      have so : Vo.op (ln row) (k + 1) = 0 := by simp [Vo.op, l]
      cases hc : Vo.cl (ln row) k with
      | none =>
        have sn' : runD (ln row) (k + 1) = .tup [.int 0, .non] := by simp [runD, Vo.op, Vo.cl, l, optD, hc]
        have sc : Vo.cl (ln row) (k + 1) = none := by simp [Vo.cl, l, hc]
        have q : optD none = .non := rfl
        walk_at "ev"
        exact ⟨_, rfl⟩
      | some c0 =>
        have sn' : runD (ln row) (k + 1) = .tup [.int 0, .int ((c0 : Int) + 1)] := by simp [runD, Vo.op, Vo.cl, l, optD, hc]
        have sc : Vo.cl (ln row) (k + 1) = some (c0 + 1) := by simp [Vo.cl, l, hc]
        have q : optD (some c0) = .int c0 := rfl
        have q' : optD (some (c0 + 1)) = .int ((c0 : Int) + 1) := rfl
        walk_at "ev"
        exact ⟨_, rfl⟩
  · simp [runD, Vo.op, Vo.cl, optD]
  · rintro ρ ⟨x, rfl⟩
    walk_at "ev"
/-- a flag as a number -/
def bi (b : Bool) : Int := if b then 1 else 0
theorem bi_t : bi true = 1 := rfl
theorem bi_f : bi false = 0 := rfl
theorem bi_inj {a b : Bool} (h : bi a = bi b) : a = b := by cases a <;> cases b <;> simp [bi] at h <;> rfl
def fla (f : Nat → Bool) (n : Nat) : List Int := (List.range n).map fun t => bi (f t)
theorem fla_len (f : Nat → Bool) (n : Nat) : (fla f n).length = n := by simp [fla]
theorem fla_s (f : Nat → Bool) (n : Nat) : fla f (n + 1) = fla f n ++ [bi (f n)] := by simp [fla, List.range_succ]
theorem fla_get (f : Nat → Bool) {n k : Nat} (h : k < n) : (fla f n)[k]? = some (bi (f k)) := by simp [fla, h]
theorem r10 (n : Nat) (row : List Int) (a g past : Nat) (ha : 1 ≤ a) (hs : (row.length : Int) + past < 1000000) : VS.run P F (n+2) 10 [(.lst (row.map .int), .fz), (.int a, .dp), (.int g, .dp), (.int past, .dp)] = .ok (.lst ((fla (Vo.fl (ln row) a g) (row.length + past + 1)).map .int), .dp) [] := by
  rw [un10]
  have hr := r9 n row past hs
  dsimp only [f10]
  walk_at "ev"
  refine forGo_wp (Q := fun o => endF _ (sqT o _ _) = _) (fun k ρ => ∃ x y, ρ = [some (.lst (row.map .int), .fz), some (.int a, .dp), some (.int g, .dp), some (.int past, .dp), some (.lst ((fla (Vo.fl (ln row) a g) k).map .int), .dp), some (.int (if k = 0 then 0 else bi (Vo.fl (ln row) a g (k - 1))), .dp), x, y]) ?_ ⟨none, none, ?_⟩ ?_
  · rintro k d ρ hk ⟨x, y, rfl⟩
    have hkn : k < row.length + past + 1 := by
      have := (List.getElem?_eq_some_iff.mp hk).1
      simpa using this
    have hd : d = runD (ln row) k := by
      rw [List.getElem?_map, List.getElem?_range hkn] at hk
      exact (Option.some.inj hk).symm
    subst hd
    have hlen : (fla (Vo.fl (ln row) a g) k).length < 16777216 := by rw [fla_len]; omega
    have imo := imm_optD (Vo.cl (ln row) k)
    have kp : ¬ k + 1 = 0 := by omega
    have kq : k + 1 - 1 = k := by omega
    have fs : (fla (Vo.fl (ln row) a g) (k + 1)).map D.int = (fla (Vo.fl (ln row) a g) k).map D.int ++ [.int (bi (Vo.fl (ln row) a g k))] := by rw [fla_s, List.map_append]; rfl
    have stp : ∀ b, Vo.ev (ln row) a g k = some b → Vo.fl (ln row) a g k = b := fun b h => by
      cases k with
      | zero => simp [Vo.fl, h]
      | succ k => simp [Vo.fl, h]
    have q1 := bi_t
    have q2 := bi_f
    have rd : runD (ln row) k = .tup [.int (Vo.op (ln row) k), optD (Vo.cl (ln row) k)] := rfl
    by_cases c : a ≤ Vo.op (ln row) k
    · have c' : (a : Int) ≤ (Vo.op (ln row) k : Int) := by omega
      have f1 := stp true (by simp [Vo.ev, c])
      walk_at "ev"
      exact ⟨_, _, rfl⟩
    · have c' : ¬ (a : Int) ≤ (Vo.op (ln row) k : Int) := by omega
      cases hc : Vo.cl (ln row) k with
      | none =>
        have f1 := stp false (by simp [Vo.ev, c, hc, Vo.cg])
        have q : optD none = .non := rfl
        walk_at "ev"
        exact ⟨_, _, rfl⟩
      | some c0 =>
        have q : optD (some c0) = .int c0 := rfl
        by_cases c2 : g ≤ c0
        · have c2' : (g : Int) ≤ (c0 : Int) := by omega
          have f1 := stp false (by simp [Vo.ev, c, hc, Vo.cg, c2])
          walk_at "ev"
          exact ⟨_, _, rfl⟩
        · have c2' : ¬ (g : Int) ≤ (c0 : Int) := by omega
          have f1 : (if k = 0 then 0 else bi (Vo.fl (ln row) a g (k - 1))) = bi (Vo.fl (ln row) a g k) := by
            have h : Vo.ev (ln row) a g k = none := by simp [Vo.ev, c, hc, Vo.cg, c2]
            cases k with
            | zero => simp [Vo.fl, h, bi]
            | succ k => simp [Vo.fl, h]
          rw [f1]
          walk_at "ev"
          exact ⟨_, _, rfl⟩
  · simp [fla]
  · rintro ρ ⟨x, y, rfl⟩
    walk_at "ev"

def prN (p : Nat × Nat) : D := .tup [.int p.1, .int p.2]
theorem imm_prN (p : Nat × Nat) : imm (prN p) = true := by simp [prN, imm, immL]
theorem r11 (n : Nat) (f : Nat → Bool) (m : Nat) (h0 : f 0 = false) (hs : m < 1000000) : VS.run P F (n+1) 11 [(.lst ((fla f (m + 1)).map .int), .fz)] = .ok (.lst ((Vo.nts f m).map prN), .dp) [] := by
  rw [un11]
  have hl : (fla f (m + 1)).length = m + 1 := fla_len _ _
  have hr1 : ((m + 1 : Nat) : Int) < 4611686018427387904 := by omega
  have hr2 : -4611686018427387904 ≤ ((m + 1 : Nat) : Int) := by omega
  dsimp only [f11]
  walk_at "ev"
  have hn : (((m + 1 : Nat) : Int) - 1).toNat = m := by omega
  rw [hn]
  refine forRange_wp (Q := fun o => endF _ (sqT o _ _) = _) (fun k ρ => (Vo.nts f k).length ≤ k ∧ ∃ x, ρ = [some (.lst ((fla f (m + 1)).map .int), .fz), some (.lst ((Vo.nts f k).map prN), .dp), some (.int (Vo.bg f k), .dp), x]) ?_ ⟨?_, none, ?_⟩ ?_
  · rintro k ρ hk ⟨hle, x, rfl⟩
    have hlen : (Vo.nts f k).length < 16777216 := by omega
    have e1 : atI ((fla f (m + 1)).map D.int) (1 + (k : Int)) = some (.int (bi (f (k + 1)))) := by rw [atI_of (j := k + 1) (by omega)]; simp [fla_get f (show k + 1 < m + 1 by omega)]
    have e2 : atI ((fla f (m + 1)).map D.int) (1 + (k : Int) - 1) = some (.int (bi (f k))) := by rw [atI_of (j := k) (by omega)]; simp [fla_get f (show k < m + 1 by omega)]
    have im := iml_map imm_prN
    have ml := fun p => List.map_append (f := prN) (l₁ := Vo.nts f k) (l₂ := [p])
    cases f1 : f k <;> cases f2 : f (k + 1)
    · have b1 : Vo.bg f (k + 1) = Vo.bg f k := by simp [Vo.bg, f1, f2]
      have b2 : Vo.nts f (k + 1) = Vo.nts f k := by simp [Vo.nts, f1, f2]
      have q := bi_f
      walk_at "ev"
      exact ⟨by omega, _, rfl⟩
    · have b1 : Vo.bg f (k + 1) = k + 1 := by simp [Vo.bg, f1, f2]
      have b2 : Vo.nts f (k + 1) = Vo.nts f k := by simp [Vo.nts, f1, f2]
      have q := bi_f
      have q' := bi_t
      walk_at "ev"
      exact ⟨by omega, _, by simp only [show (1 : Int) + (k : Int) = ((k + 1 : Nat) : Int) by omega]; rfl⟩
    · have b1 : Vo.bg f (k + 1) = Vo.bg f k := by simp [Vo.bg, f1, f2]
      have b2 : Vo.nts f (k + 1) = Vo.nts f k ++ [(Vo.bg f k, k + 1)] := by simp [Vo.nts, f1, f2]
      have q := bi_f
      have q' := bi_t
      walk_at "ev"
      exact ⟨by simp; omega, _, by simp only [show (1 : Int) + (k : Int) = ((k + 1 : Nat) : Int) by omega, prN]; rfl⟩
    · have b1 : Vo.bg f (k + 1) = Vo.bg f k := by simp [Vo.bg, f1, f2]
      have b2 : Vo.nts f (k + 1) = Vo.nts f k := by simp [Vo.nts, f1, f2]
      have q := bi_t
      walk_at "ev"
      exact ⟨by omega, _, rfl⟩
  · simp [Vo.nts]
  · simp [Vo.nts, Vo.bg]
  · rintro ρ ⟨hle, x, rfl⟩
    walk_at "ev"

end LW
namespace LW
open PySem PySem.Spec PyProof.Rows L2 VS Ru

def clI (r : Nat → Bool) (t : Nat) : Int := match Vo.cl r t with
  | none => 1000000000 + t
  | some k => k
def runI (r : Nat → Bool) (t : Nat) : D := .tup [.int (Vo.op r t), .int (clI r t)]
theorem imm_runI (r : Nat → Bool) (t : Nat) : imm (runI r t) = true := by simp [runI, imm, immL]
theorem r18 (n : Nat) (row : List Int) (past : Nat) (hs : (row.length : Int) + past < 1000000) : VS.run P F (n+1) 18 [(.lst (row.map .int), .fz), (.int past, .dp)] = .ok (.lst ((List.range (row.length + past + 1)).map (runI (ln row))), .dp) [] := by
  rw [un18]
  have hr1 : (row.length : Int) + past < 4611686018427387904 := by omega
  have hr2 : -4611686018427387904 ≤ (row.length : Int) + past := by omega
  dsimp only [f18]
  walk_at "ev"
  have hn : ((row.length : Int) + past).toNat = row.length + past := by omega
  rw [hn]
  refine forRange_wp (Q := fun o => endF _ (sqT o _ _) = _) (fun k ρ => ∃ x y z, ρ = [some (.lst (row.map .int), .fz), some (.int past, .dp), some (.lst ((List.range (k + 1)).map (runI (ln row))), .dp), x, y, z]) ?_ ⟨none, none, none, ?_⟩ ?_
  · rintro k ρ hk ⟨x, y, z, rfl⟩
    have hlen : k + 1 < 16777216 := by omega
    have im := iml_map (imm_runI (ln row)) (List.range (k + 1))
    have sn := (range_snoc (runI (ln row)) (k + 1)).symm
    have e0 : atI ((List.range (k + 1)).map (runI (ln row))) (k : Int) = some (.tup [.int (Vo.op (ln row) k), .int (clI (ln row) k)]) := by rw [atI_get?]; simp [runI]
    by_cases c : k < row.length
    · have c1 : (k : Int) < (row.length : Int) := by omega
      have e : atI (row.map D.int) (k : Int) = some (.int (row[k])) := by rw [atI_get?]; simp [c]
      by_cases c2 : row[k] = 1
      · have l : ln row k = true := by simp [ln, c, c2]
        have sn' : runI (ln row) (k + 1) = .tup [.int ((Vo.op (ln row) k : Int) + 1), .int 0] := by simp [runI, Vo.op, Vo.cl, clI, l]
        walk_at "ev"
        exact ⟨_, _, _, rfl⟩
      · have l : ln row k = false := by simp [ln, c, c2]
        have sn' : runI (ln row) (k + 1) = .tup [.int 0, .int (clI (ln row) k + 1)] := by
          cases hc : Vo.cl (ln row) k <;> simp [runI, Vo.op, Vo.cl, clI, l, hc]
          omega
        walk_at "ev"
        exact ⟨_, _, _, rfl⟩
    · have c1 : ¬ (k : Int) < (row.length : Int) := by omega
      have l : ln row k = false := by simp [ln, c]
      have sn' : runI (ln row) (k + 1) = .tup [.int 0, .int (clI (ln row) k + 1)] := by
        cases hc : Vo.cl (ln row) k <;> simp [runI, Vo.op, Vo.cl, clI, l, hc]
        omega
      walk_at "ev"
      exact ⟨_, _, _, rfl⟩
  · simp [runI, Vo.op, Vo.cl, clI]
  · rintro ρ ⟨x, y, z, rfl⟩
    walk_at "ev"
theorem r19 (n : Nat) (row : List Int) (a g past : Nat) (ha : 1 ≤ a) (hg : g ≤ 1000000000) (hs : (row.length : Int) + past < 1000000) : VS.run P F (n+2) 19 [(.lst (row.map .int), .fz), (.int a, .dp), (.int g, .dp), (.int past, .dp)] = .ok (.lst ((fla (Vo.fl (ln row) a g) (row.length + past + 1)).map .int), .dp) [] := by
  rw [un19]
  have hr := r18 n row past hs
  dsimp only [f19]
  walk_at "ev"
  refine forGo_wp (Q := fun o => endF _ (sqT o _ _) = _) (fun k ρ => ∃ x y, ρ = [some (.lst (row.map .int), .fz), some (.int a, .dp), some (.int g, .dp), some (.int past, .dp), some (.lst ((fla (Vo.fl (ln row) a g) k).map .int), .dp), some (.int (if k = 0 then 0 else bi (Vo.fl (ln row) a g (k - 1))), .dp), x, y]) ?_ ⟨none, none, ?_⟩ ?_
  · rintro k d ρ hk ⟨x, y, rfl⟩
    have hkn : k < row.length + past + 1 := by
      have := (List.getElem?_eq_some_iff.mp hk).1
      simpa using this
    have hd : d = runI (ln row) k := by
      rw [List.getElem?_map, List.getElem?_range hkn] at hk
      exact (Option.some.inj hk).symm
    subst hd
    have hlen : (fla (Vo.fl (ln row) a g) k).length < 16777216 := by rw [fla_len]; omega
    have kp : ¬ k + 1 = 0 := by omega
    have kq : k + 1 - 1 = k := by omega
    have fs : (fla (Vo.fl (ln row) a g) (k + 1)).map D.int = (fla (Vo.fl (ln row) a g) k).map D.int ++ [.int (bi (Vo.fl (ln row) a g k))] := by rw [fla_s, List.map_append]; rfl
    have q1 := bi_t
    have q2 := bi_f
    have stp : ∀ b, Vo.ev (ln row) a g k = some b → Vo.fl (ln row) a g k = b := fun b h => by
      cases k with
      | zero => simp [Vo.fl, h]
      | succ k => simp [Vo.fl, h]
    have rd : runI (ln row) k = .tup [.int (Vo.op (ln row) k), .int (clI (ln row) k)] := rfl
    have cgI : Vo.cg g (Vo.cl (ln row) k) = decide ((g : Int) ≤ clI (ln row) k) := by
      unfold clI
      cases Vo.cl (ln row) k with
      | none => simp [Vo.cg]; omega
      | some c => simp [Vo.cg]
    by_cases c : a ≤ Vo.op (ln row) k
    · have c' : (a : Int) ≤ (Vo.op (ln row) k : Int) := by omega
      have f1 := stp true (by simp [Vo.ev, c])
      walk_at "ev"
      exact ⟨_, _, rfl⟩
    · have c' : ¬ (a : Int) ≤ (Vo.op (ln row) k : Int) := by omega
      by_cases c2 : (g : Int) ≤ clI (ln row) k
      · have f1 := stp false (by simp [Vo.ev, c, cgI, c2])
        walk_at "ev"
        exact ⟨_, _, rfl⟩
      · have f1 : (if k = 0 then 0 else bi (Vo.fl (ln row) a g (k - 1))) = bi (Vo.fl (ln row) a g k) := by
          have h : Vo.ev (ln row) a g k = none := by simp [Vo.ev, c, cgI, c2]
          cases k with
          | zero => simp [Vo.fl, h, bi]
          | succ k => simp [Vo.fl, h]
        rw [f1]
        clear stp
        walk_at "ev"
        exact ⟨_, _, rfl⟩
  · simp [fla]
  · rintro ρ ⟨x, y, rfl⟩
    walk_at "ev"
/-- a note, counted from first -/
def prF (first : Int) (p : Nat × Nat) : D := .tup [.int (first + p.1), .int (first + p.2)]
theorem imm_prF (first : Int) (p : Nat × Nat) : imm (prF first p) = true := by simp [prF, imm, immL]
theorem r20 (n : Nat) (f : Nat → Bool) (first : Int) (m : Nat) (h0 : f 0 = false) (hs : m < 1000000) : VS.run P F (n+1) 20 [(.lst ((fla f (m + 1)).map .int), .fz), (.int first, .dp)] = .ok (.lst ((Vo.nts f m).map (prF first)), .dp) [] := by
  rw [un20]
  have hl : (fla f (m + 1)).length = m + 1 := fla_len _ _
  have hr1 : ((m + 1 : Nat) : Int) < 4611686018427387904 := by omega
  have hr2 : -4611686018427387904 ≤ ((m + 1 : Nat) : Int) := by omega
  dsimp only [f20]
  walk_at "ev"
  refine forRange_wp (Q := fun o => endF _ (sqT o _ _) = _) (fun k ρ => (Vo.nts f (k - 1)).length ≤ k ∧ ∃ (b : Int) (x y : Option (D × Md)), b = first + (Vo.bg f (k - 1) : Nat) ∧ ρ = [some (.lst ((fla f (m + 1)).map .int), .fz), some (.int first, .dp), some (.lst ((Vo.nts f (k - 1)).map (prF first)), .dp), some (.int b, .dp), x, y]) ?_ ⟨?_, first, none, none, ?_, ?_⟩ ?_
  · rintro k ρ hk ⟨hle, b, x, y, hb, rfl⟩
    have hlen : (Vo.nts f (k - 1)).length < 16777216 := by omega
    have e1 : atI ((fla f (m + 1)).map D.int) (k : Int) = some (.int (bi (f k))) := by rw [atI_get?]; simp [fla_get f hk]
    have im := iml_map (imm_prF first)
    cases k with
    | zero =>
      simp only [Nat.zero_sub, Nat.sub_self] at hle hlen hb ⊢
      subst hb
      have q0 : ¬ (0 : Int) < 0 := by omega
      have e1' : atI ((fla f (m + 1)).map D.int) 0 = some (.int (bi (f 0))) := e1
      have q := bi_f
      clear e1
      walk_at "ev"
      exact ⟨by omega, _, _, _, rfl, rfl⟩
    | succ k =>
      simp only [Nat.add_one_sub_one] at hle hlen hb ⊢
      subst hb
      have q0 : (0 : Int) < ((k + 1 : Nat) : Int) := by omega
      have e2 : atI ((fla f (m + 1)).map D.int) (((k + 1 : Nat) : Int) - 1) = some (.int (bi (f k))) := by rw [atI_of (j := k) (by omega)]; simp [fla_get f (show k < m + 1 by omega)]
      cases f1 : f k <;> cases f2 : f (k + 1)
      · have b1 : Vo.bg f (k + 1) = Vo.bg f k := by simp [Vo.bg, f1, f2]
        have b2 : Vo.nts f (k + 1) = Vo.nts f k := by simp [Vo.nts, f1, f2]
        have q := bi_f
        walk_at "ev"
        exact ⟨by omega, _, _, _, rfl, rfl⟩
      · have b1 : Vo.bg f (k + 1) = k + 1 := by simp [Vo.bg, f1, f2]
        have b2 : Vo.nts f (k + 1) = Vo.nts f k := by simp [Vo.nts, f1, f2]
        have q := bi_f
        have q' := bi_t
        walk_at "ev"
        exact ⟨by omega, _, _, _, rfl, rfl⟩
      · have b1 : Vo.bg f (k + 1) = Vo.bg f k := by simp [Vo.bg, f1, f2]
        have b2 : Vo.nts f (k + 1) = Vo.nts f k ++ [(Vo.bg f k, k + 1)] := by simp [Vo.nts, f1, f2]
        have q := bi_f
        have q' := bi_t
        walk_at "ev"
        exact ⟨by simp; omega, _, _, _, rfl, by rw [List.map_append]; rfl⟩
      · have b1 : Vo.bg f (k + 1) = Vo.bg f k := by simp [Vo.bg, f1, f2]
        have b2 : Vo.nts f (k + 1) = Vo.nts f k := by simp [Vo.nts, f1, f2]
        have q := bi_t
        walk_at "ev"
        exact ⟨by omega, _, _, _, rfl, rfl⟩
  · simp [Vo.nts]
  · simp [Vo.bg]
  · simp [Vo.nts]
  · rintro ρ ⟨hle, b, x, y, hb, rfl⟩
    simp only [Nat.add_one_sub_one]
    walk_at "ev"

end LW
namespace LW
open PySem PySem.Spec PyProof.Rows L2 VS Ru

theorem maxI_is {l : List Int} {m : Int} (h : m ∈ l) (h2 : ∀ y, y ∈ l → y ≤ m) : maxI l = some m := by
  cases e : maxI l with
  | none => cases l with
    | nil => cases h
    | cons a r => cases e
  | some x =>
    obtain ⟨h3, h4⟩ := maxI_mem e
    have := h2 x h3
    have := h4 m h
    rw [show x = m by omega]
theorem minI_is {l : List Int} {m : Int} (h : m ∈ l) (h2 : ∀ y, y ∈ l → m ≤ y) : minI l = some m := by
  cases e : minI l with
  | none => cases l with
    | nil => cases h
    | cons a r => cases e
  | some x =>
    obtain ⟨h3, h4⟩ := minI_mem e
    have := h2 x h3
    have := h4 m h
    rw [show x = m by omega]
theorem max_ex {l : List Int} (h : l ≠ []) : ∃ m, m ∈ l ∧ ∀ y, y ∈ l → y ≤ m := by
  cases e : maxI l with
  | none => cases l with
    | nil => exact absurd rfl h
    | cons a r => cases e
  | some x => exact ⟨x, maxI_mem e⟩
theorem min_ex {l : List Int} (h : l ≠ []) : ∃ m, m ∈ l ∧ ∀ y, y ∈ l → m ≤ y := by
  cases e : minI l with
  | none => cases l with
    | nil => exact absurd rfl h
    | cons a r => cases e
  | some x => exact ⟨x, minI_mem e⟩

end LW
namespace LW
open PySem PySem.Spec PyProof.Rows L2 VS Ru

/-- the notes of a row on an organ -/
def stn (row : List Int) (a g : Int) : List (Int × Int) := (Vo.nts (Vo.fl (ln row) a.toNat g.toNat) (row.length + g.toNat)).map La.up
theorem stn_D (row : List Int) (a g : Nat) : (Vo.nts (Vo.fl (ln row) a g) (row.length + g)).map prN = (stn row a g).map VS.prD := by
  unfold stn
  rw [List.map_map]
  rfl
theorem r12 (n : Nat) (row : List Int) (a g : Int) (h : Bin row) (hl : 0 < row.length ∧ row.length ≤ 400) (ha : 2 ≤ a ∧ a ≤ 60) (hg : 2 ≤ g ∧ g ≤ 60) : VS.run P F (n+4) 12 [(.lst (row.map .int), .fz), (.int a, .dp), (.int g, .dp)] = .ok (.lst ((stn row a g).map VS.prD), .dp) [] := by
  obtain ⟨a, rfl⟩ := Int.eq_ofNat_of_zero_le (show 0 ≤ a by omega)
  obtain ⟨g, rfl⟩ := Int.eq_ofNat_of_zero_le (show 0 ≤ g by omega)
  rw [un12, ← stn_D]
  have e0 := fun v => r2 (n+1) v 60 "number"
  have e1 := r3 n row 400 h hl.1 (by omega) (by omega)
  have e2 := r10 (n+1) row a g g (by omega) (by omega)
  have e3 := r11 (n+2) (Vo.fl (ln row) a g) (row.length + g) (Vo.fl_0 (by omega)) (by omega)
  dsimp only [f12]
  walk_at "go"
theorem r21 (n : Nat) (row : List Int) (a g : Int) (hl : row.length ≤ 100000) (ha : 1 ≤ a) (hg : 1 ≤ g ∧ g ≤ 100000) : VS.run P F (n+3) 21 [(.lst (row.map .int), .fz), (.int a, .dp), (.int g, .dp)] = .ok (.lst ((stn row a g).map VS.prD), .dp) [] := by
  obtain ⟨a, rfl⟩ := Int.eq_ofNat_of_zero_le (show 0 ≤ a by omega)
  obtain ⟨g, rfl⟩ := Int.eq_ofNat_of_zero_le (show 0 ≤ g by omega)
  rw [un21, ← stn_D]
  have e2 := r19 n row a g g (by omega) (by omega) (by omega)
  have e3 := r20 (n+1) (Vo.fl (ln row) a g) 0 (row.length + g) (Vo.fl_0 (by omega)) (by omega)
  have pf : ∀ l : List (Nat × Nat), l.map (prF 0) = l.map prN := fun l => List.map_congr_left fun p _ => by simp [prF, prN]
  rw [pf] at e3
  dsimp only [f21]
  walk_at "go"
theorem stn_len (row : List Int) (a g : Int) : (stn row a g).length ≤ row.length + g.toNat := by
  unfold stn
  rw [List.length_map]
  exact Vo.nts_len _ _

end LW
namespace LW
open PySem PySem.Spec PyProof.Rows L2 VS Ru

def dq (p : Pu) : Int := if 0 < p.1 then p.1 else ((p.2.1 * 48271 + (p.2.2 + 1) * 69621) % 2147483647 * 16807 + (p.2.2 + 1) * 7919) % 2147483629 / 8
def dn (p : Pu) (many : Int) : Pu := if 0 < p.1 then (p.1 / many, p.2.1, p.2.2) else (p.1, (p.2.1 * 48271 + (p.2.2 + 1) * 69621) % 2147483647, p.2.2 + 1)
/-- what is drawn: omega knows its bound -/
def dv (p : Pu) (m : Int) : Fin (m.toNat - 1 + 1) := if h : 0 < m then ⟨(dq p % m).toNat, by have := Int.emod_nonneg (dq p) (show m ≠ 0 by omega); have := Int.emod_lt_of_pos (dq p) h; omega⟩ else ⟨0, by omega⟩
theorem q16 (n : Nat) (p : Pu) (many : Int) (h : 0 < many) (h2 : many < 1073741824) : VS.run P F (n+1) 16 [(PU p, .dp), (.int many, .dp)] = .ok (.int ((dv p many).val : Nat), .dp) [(0, (PU (dn p many), .dp))] := by
  rw [r16 n p many h h2]
  have e : (((dv p many).val : Nat) : Int) = dq p % many := by
    have := Int.emod_nonneg (dq p) (show many ≠ 0 by omega)
    unfold dv
    rw [dif_pos h]
    show (((dq p % many).toNat : Nat) : Int) = _
    omega
  rw [e]
  unfold dq dn drw
  split <;> rfl
/-- a box as the law holds it -/
structure Bx where
  a0 : Int
  a1 : Int
  g0 : Int
  g1 : Int
def bxD (b : Bx) : D := .tup [.int b.a0, .int b.a1, .int b.g0, .int b.g1]
theorem imm_bx (b : Bx) : imm (bxD b) = true := by simp [bxD, imm, immL]
structure Bx.Ok (b : Bx) : Prop where
  a : 2 ≤ b.a0
  aa : b.a0 ≤ b.a1
  g : 2 ≤ b.g0
  gg : b.g0 ≤ b.g1
  am : b.a1 ≤ 60
  gm : b.g1 ≤ 60
theorem r27 (n : Nat) (p : Pu) (b : Bx) (hb : b.Ok) (m : Nat) (hm : b.a1 ≤ m ∧ b.g1 ≤ m) (m1 : m ≤ 60) : ∃ (row : List Int) (p' : Pu), VS.run P F (n+2) 27 [(PU p, .dp), (bxD b, .dp)] = .ok (.lst (row.map .int), .dp) [(0, (PU p', .dp))] ∧ Bin row ∧ 1 ≤ row.length ∧ row.length ≤ 9 * m := by
  rw [un27]
  have ip := imm_PU
  have dr := q16 n
  obtain ⟨h1, h2, h3, h4, h5, h6⟩ := hb
  obtain ⟨a0, a1, g0, g1⟩ := b
  dsimp only at h1 h2 h3 h4 h5 h6 hm
  dsimp only [f27, bxD]
  walk_at "go"
  refine forRange_wp (Q := fun o => ∃ (row : List Int) (p' : Pu), endF _ (sqT o _ _) = .ok (.lst (row.map .int), .dp) [(0, (PU p', .dp))] ∧ Bin row ∧ 1 ≤ row.length ∧ row.length ≤ 9 * m) (fun k ρ => ∃ (row : List Int) (p' : Pu) (x : Option (D × Md)), ρ = [some (PU p', .dp), some (.tup [.int a0, .int a1, .int g0, .int g1], .dp), some (.lst (row.map .int), .dp), x] ∧ Bin row ∧ row.length + 2 * k ≤ k * (2 * m)) ?_ ⟨[], _, none, rfl, Ru.bin_nil, by simp⟩ ?_
  · rintro k ρ hk ⟨row, p1, x, rfl, hb, hl⟩
    have km : k * (2 * m) ≤ 3 * (2 * m) := Nat.mul_le_mul_right _ (by omega)
    have k1 : (k + 1) * (2 * m) = k * (2 * m) + 2 * m := Nat.succ_mul _ _
    walk_at "go"
    exact ⟨_, _, _, rfl, by walk_at "bin", by walk_at "len"⟩
  · rintro ρ ⟨row, p1, x, rfl, hb, hl⟩
    have km : (dv p 3).val * (2 * m) ≤ 2 * (2 * m) := Nat.mul_le_mul_right _ (by omega)
    walk_at "go"
    (repeat' split) <;> exact ⟨_, _, rfl, by walk_at "bin", by walk_at "len", by walk_at "len"⟩
theorem r28 (n : Nat) (p : Pu) (b : Bx) (hb : b.Ok) (m : Nat) (hm : b.a1 ≤ m ∧ b.g1 ≤ m) : ∃ (row : List Int) (p' : Pu), VS.run P F (n+2) 28 [(PU p, .dp), (bxD b, .dp)] = .ok (.lst (row.map .int), .dp) [(0, (PU p', .dp))] ∧ Bin row ∧ 1 ≤ row.length ∧ row.length ≤ 3 * m + 2 := by
  rw [un28]
  have ip := imm_PU
  have dr := q16 n
  obtain ⟨h1, h2, h3, h4, h5, h6⟩ := hb
  obtain ⟨a0, a1, g0, g1⟩ := b
  dsimp only at h1 h2 h3 h4 h5 h6 hm
  dsimp only [f28, bxD]
  walk_at "go"
  (repeat' split) <;> exact ⟨_, _, rfl, by walk_at "bin", by walk_at "len", by walk_at "len"⟩
theorem r29 (n : Nat) (p : Pu) (b : Bx) (hb : b.Ok) (m : Nat) (hm : b.a1 ≤ m ∧ b.g1 ≤ m) (m1 : m ≤ 60) (many : Nat) (hma : many ≤ 5) : ∃ (row : List Int) (p' : Pu), VS.run P F (n+3) 29 [(PU p, .dp), (bxD b, .dp), (.int many, .dp)] = .ok (.lst (row.map .int), .dp) [(0, (PU p', .dp))] ∧ Bin row ∧ 1 ≤ row.length ∧ row.length ≤ 3 * m + 4 + many * (12 * m + 2) := by
  rw [un29]
  have ip := imm_PU
  have dr := q16 (n+1)
  have ib := imm_bx b
  dsimp only [f29]
  obtain ⟨r0, p0, e0, b0, l0, l0'⟩ := r28 n (dn p 3) b hb m hm
  by_cases c : (many : Int) = 0
  · walk_at "go"
    exact ⟨_, _, rfl, by walk_at "bin", by walk_at "len", by simp only [List.length_append, List.length_replicate]; omega⟩
  · walk_at "go"
    refine forRange_wp (Q := fun o => ∃ (row : List Int) (p' : Pu), endF _ (sqT o _ _) = .ok (.lst (row.map .int), .dp) [(0, (PU p', .dp))] ∧ Bin row ∧ 1 ≤ row.length ∧ row.length ≤ 3 * m + 4 + many * (12 * m + 2)) (fun k ρ => ∃ (row : List Int) (p' : Pu) (x : Option (D × Md)), ρ = [some (PU p', .dp), some (bxD b, .dp), some (.int many, .dp), some (.lst (row.map .int), .dp), x] ∧ Bin row ∧ (k = 0 ∨ 1 ≤ row.length) ∧ row.length ≤ 2 + k * (12 * m + 2)) ?_ ⟨_, _, none, rfl, by walk_at "bin", .inl rfl, by simp only [List.length_append, List.length_replicate]; omega⟩ ?_
    · rintro k ρ hk ⟨row, p1, x, rfl, hb', _, hl⟩
      have km : k * (12 * m + 2) ≤ 5 * (12 * m + 2) := Nat.mul_le_mul_right _ (by omega)
      have k1 : (k + 1) * (12 * m + 2) = k * (12 * m + 2) + (12 * m + 2) := Nat.succ_mul _ _
      obtain ⟨r1, p2, e1, b1, l1, l1'⟩ := r27 (n) p1 b hb m hm m1
      obtain ⟨r2, p3, e2, b2, l2, l2'⟩ := r28 (n) p2 b hb m hm
      obtain ⟨r3, p4, e3, b3, l3, l3'⟩ := r28 (n) (dn p2 2) b hb m hm
      walk_at "go"
      simp only [Ru.turn_if, Ru.turn_nx]
      (repeat' (apply And.intro <;> intro _)) <;> exact ⟨_, _, _, rfl, by walk_at "bin", by walk_at "len", by walk_at "len"⟩
    · rintro ρ ⟨row, p1, x, rfl, hb', h1, hl⟩
      walk_at "go"
      exact ⟨_, _, rfl, hb', by omega, by omega⟩

end LW
namespace LW
open PySem PySem.Spec PyProof.Rows L2 VS Ru

theorem r30 (n : Nat) (p : Pu) (b : Bx) (hb : b.Ok) (mm : Nat) (hmm : b.a1 ≤ mm ∧ b.g1 ≤ mm) (row : List Int) (h : Bin row) (hl : row.length ≤ 100000) : ∃ (r : List Int) (m : Md) (p' : Pu), VS.run P F (n+2) 30 [(PU p, .dp), (bxD b, .dp), (.lst (row.map .int), .fz)] = .ok (.lst (r.map .int), m) [(0, (PU p', .dp))] ∧ (m = .fz ∨ m = .dp) ∧ Bin r ∧ row.length ≤ r.length ∧ r.length ≤ row.length + 4 * mm := by
  rw [un30]
  have ip := imm_PU
  have dr := q16 n
  obtain ⟨h1, h2, h3, h4, h5, h6⟩ := hb
  obtain ⟨a0, a1, g0, g1⟩ := b
  dsimp only at h1 h2 h3 h4 h5 h6 hmm
  dsimp only [f30, bxD]
  walk_at "go"
  (repeat' split) <;> first | exact ⟨_, _, _, rfl, .inl rfl, by walk_at "bin", by walk_at "len", by walk_at "len"⟩ | exact ⟨_, _, _, rfl, .inr rfl, by walk_at "bin", by walk_at "len", by walk_at "len"⟩
theorem r26 (n : Nat) (p : Pu) (many wide : Int) (hm : 0 ≤ many ∧ many ≤ 1000) (hw : 1 ≤ wide ∧ wide ≤ 1000) : ∃ (row : List Int) (p' : Pu), VS.run P F (n+2) 26 [(PU p, .dp), (.int many, .dp), (.int wide, .dp)] = .ok (.lst (row.map .int), .dp) [(0, (PU p', .dp))] ∧ Bin row ∧ many ≤ row.length ∧ row.length ≤ many * wide := by
  rw [un26]
  have ip := imm_PU
  have dr := q16 n
  dsimp only [f26]
  walk_at "go"
  refine forRange_wp (Q := fun o => ∃ (row : List Int) (p' : Pu), endF _ (sqT o _ _) = .ok (.lst (row.map .int), .dp) [(0, (PU p', .dp))] ∧ Bin row ∧ many ≤ row.length ∧ row.length ≤ many * wide) (fun k ρ => ∃ (row : List Int) (p' : Pu) (s : Int) (x : Option (D × Md)), ρ = [some (PU p', .dp), some (.int many, .dp), some (.int wide, .dp), some (.lst (row.map .int), .dp), some (.int s, .dp), x] ∧ Bin row ∧ (s = 0 ∨ s = 1) ∧ k ≤ row.length ∧ row.length ≤ k * wide) ?_ ⟨[], _, _, none, rfl, Ru.bin_nil, by omega, by simp, by simp⟩ ?_
  · rintro k ρ hk ⟨row, p1, s, x, rfl, hb, hs, h1, h2⟩
    have kw : (k : Int) * wide ≤ 1000 * 1000 := Int.mul_le_mul (by omega) (by omega) (by omega) (by omega)
    have k1 : ((k + 1 : Nat) : Int) * wide = k * wide + wide := by rw [Int.natCast_add, Int.add_mul]; simp
    rw [k1]
    walk_at "go"
    refine ⟨_, _, _, _, rfl, ?_, by omega, by walk_at "len", by walk_at "len"⟩
    rcases hs with rfl | rfl <;> walk_at "bin"
  · rintro ρ ⟨row, p1, s, x, rfl, hb, hs, h1, h2⟩
    have e : ((many.toNat : Nat) : Int) = many := by omega
    rw [e] at h2
    walk_at "go"
    exact ⟨_, _, rfl, hb, by omega, h2⟩
/-- a box as the program holds it -/
def BxO (b : Bx) : D := .ins 6 [("a0", .int b.a0), ("a1", .int b.a1), ("g0", .int b.g0), ("g1", .int b.g1)]
theorem imm_BxO (b : Bx) : imm (BxO b) = false := by simp [BxO, imm]
theorem r38 (n : Nat) (b : Bx) (hb : b.Ok) : VS.run P F (n+3) 38 [(.ins 6 [], .dp), (.int b.a0, .dp), (.int b.a1, .dp), (.int b.g0, .dp), (.int b.g1, .dp)] = .ok (.non, .dp) [(0, (BxO b, .dp))] := by
  rw [un38]
  have e0 := fun v => r2 n v 60 "number"
  obtain ⟨h1, h2, h3, h4, h5, h6⟩ := hb
  obtain ⟨a0, a1, g0, g1⟩ := b
  dsimp only at h1 h2 h3 h4 h5 h6
  dsimp only [f38, BxO]
  walk_at "go"
theorem r25 (n : Nat) (b : Bx) (hb : b.Ok) : VS.run P F (n+4) 25 [(bxD b, .dp)] = .ok (BxO b, .dp) [] := by
  rw [un25]
  have e0 := r38 n b hb
  dsimp only [f25, bxD]
  walk_at "go"

end LW
namespace LW
open PySem PySem.Spec PyProof.Rows L2 VS Ru

/-- the organs of a box -/
def boxA (b : Bx) (k : Nat) : List (Int × Int) := (List.range k).flatMap fun (i : Nat) => (List.range (b.g1 + 1 - b.g0).toNat).map fun (j : Nat) => (b.a0 + (i : Int), b.g0 + (j : Int))
def boxG (b : Bx) (k j : Nat) : List (Int × Int) := boxA b k ++ (List.range j).map fun (j : Nat) => (b.a0 + (k : Int), b.g0 + (j : Int))
def boxO (b : Bx) : List (Int × Int) := boxA b (b.a1 + 1 - b.a0).toNat
theorem boxG_s (b : Bx) (k j : Nat) : boxG b k (j + 1) = boxG b k j ++ [(b.a0 + (k : Int), b.g0 + (j : Int))] := by simp [boxG, List.range_succ]
theorem boxA_s (b : Bx) (k : Nat) : boxA b (k + 1) = boxG b k (b.g1 + 1 - b.g0).toNat := by simp [boxA, boxG, List.range_succ]
theorem boxA_len (b : Bx) (k : Nat) : (boxA b k).length = k * (b.g1 + 1 - b.g0).toNat := by
  induction k with
  | zero => simp [boxA]
  | succ k ih => rw [boxA_s, boxG, List.length_append, ih]; simp [Nat.succ_mul]
theorem mem_boxO {b : Bx} {p : Int × Int} : p ∈ boxO b ↔ (b.a0 ≤ p.1 ∧ p.1 ≤ b.a1) ∧ b.g0 ≤ p.2 ∧ p.2 ≤ b.g1 := by
  simp only [boxO, boxA, List.mem_flatMap, List.mem_map, List.mem_range]
  constructor
  · rintro ⟨i, hi, j, hj, rfl⟩
    dsimp only
    omega
  · rintro ⟨h1, h2⟩
    exact ⟨(p.1 - b.a0).toNat, by omega, (p.2 - b.g0).toNat, by omega, Prod.ext (by dsimp only; omega) (by dsimp only; omega)⟩
theorem boxO_nd (b : Bx) : (boxO b).Nodup := by
  unfold boxO boxA List.Nodup
  rw [List.pairwise_flatMap]
  refine ⟨fun i _ => ?_, ?_⟩
  · rw [List.pairwise_map]
    exact List.nodup_range.imp fun h => by
      intro e
      have := congrArg Prod.snd e
      dsimp only at this
      omega
  · refine List.nodup_range.imp fun {i j} h => ?_
    intro p hp q hq e
    rw [List.mem_map] at hp hq
    obtain ⟨_, _, rfl⟩ := hp
    obtain ⟨_, _, rfl⟩ := hq
    have := congrArg Prod.fst e
    dsimp only at this
    omega
theorem r24 (n : Nat) (b : Bx) (hb : b.Ok) : VS.run P F (n+1) 24 [(bxD b, .dp)] = .ok (.lst ((boxO b).map VS.prD), .dp) [] := by
  rw [un24]
  have hb' := hb
  obtain ⟨h1, h2, h3, h4, h5, h6⟩ := hb'
  obtain ⟨gw, hgw⟩ : ∃ gw, gw = (b.g1 + 1 - b.g0).toNat := ⟨_, rfl⟩
  obtain ⟨aw, haw⟩ : ∃ aw, aw = (b.a1 + 1 - b.a0).toNat := ⟨_, rfl⟩
  have hl : ∀ k, k < aw → (boxA b k).length + 59 < 16777216 := fun k hk => by
    rw [boxA_len, ← hgw]
    have : k * gw ≤ 59 * 59 := Nat.mul_le_mul (by omega) (by omega)
    omega
  dsimp only [f24, bxD]
  walk_at "go"
  rw [← haw]
  refine forRange_wp (Q := fun o => endF _ (sqT o _ _) = _) (fun k ρ => ∃ x y, ρ = [some (.tup [.int b.a0, .int b.a1, .int b.g0, .int b.g1], .dp), some (.lst ((boxA b k).map VS.prD), .dp), x, y]) ?_ ⟨none, none, rfl⟩ ?_
  · rintro k ρ hk ⟨x, y, rfl⟩
    have hlk := hl k hk
    walk_at "go"
    rw [← hgw]
    refine forRange_wp (Q := fun o => turn _ _ (sqT o _ _)) (fun j ρ => ∃ y, ρ = [some (.tup [.int b.a0, .int b.a1, .int b.g0, .int b.g1], .dp), some (.lst ((boxG b k j).map VS.prD), .dp), some (.int (b.a0 + (k : Int)), .dp), y]) ?_ ⟨y, by simp [boxG]⟩ ?_
    · rintro j ρ hj ⟨y, rfl⟩
      have hlj : (boxG b k j).length < 16777216 := by
        rw [boxG, List.length_append]; simp; omega
      rw [boxG_s]
      walk_at "go"
      exact ⟨_, rfl⟩
    · rintro ρ ⟨y, rfl⟩
      rw [boxA_s, ← hgw]
      walk_at "go"
      exact ⟨_, _, rfl⟩
  · rintro ρ ⟨x, y, rfl⟩
    rw [boxO, ← haw]
    walk_at "go"
theorem r5 (n : Nat) (b : Bx) (p : Int × Int) (h : p ∈ boxO b) : VS.run P F (n+1) 5 [(VS.prD p, .dp), (BxO b, .fz)] = .ok (.bl true, .dp) [] := by
  rw [un5]
  have h := mem_boxO.mp h
  obtain ⟨⟨h1, h2⟩, h3, h4⟩ := h
  dsimp only [f5, BxO]
  walk_at "go"
/-- the two ends -/
def twoE (a : Int) : List Int × List Int := if a = 2 then ([1, 1, 0, 1], [1, 0, 0, 1]) else (List.replicate a.toNat 1 ++ [0] ++ List.replicate (a - 2).toNat 1, List.replicate (a - 1).toNat 1 ++ [0] ++ List.replicate (a - 1).toNat 1)
theorem r6 (n : Nat) (a : Int) (h : 2 ≤ a ∧ a ≤ 60) : VS.run P F (n+1) 6 [(.int a, .dp)] = .ok (.tup [.lst ((twoE a).1.map .int), .lst ((twoE a).2.map .int)], .dp) [] := by
  rw [un6]
  dsimp only [f6]
  by_cases c : a = 2
  · have e : twoE a = ([1, 1, 0, 1], [1, 0, 0, 1]) := by simp [twoE, c]
    rw [e]
    walk_at "go"
    rfl
  · have e : twoE a = (List.replicate a.toNat 1 ++ [0] ++ List.replicate (a - 2).toNat 1, List.replicate (a - 1).toNat 1 ++ [0] ++ List.replicate (a - 1).toNat 1) := by simp [twoE, c]
    rw [e]
    walk_at "go"
theorem r7 (n : Nat) (b : Bx) (hb : b.Ok) (l : List (Int × Int)) (hl : l.length ≤ 16) (h : ∀ p, p ∈ l → p ∈ boxO b) : VS.run P F (n+3) 7 [(BxO b, .fz), (.lst (l.map VS.prD), .fz)] = .ok (.non, .dp) [] := by
  rw [un7]
  have e0 := fun v => r2 n v 60 "number"
  have e1 := fun v => r2 n v 16 "organs"
  have ib := imm_BxO b
  obtain ⟨h1, h2, h3, h4, h5, h6⟩ := hb
  dsimp only [f7]
  walk_at "go"
  refine forGo_wp (Q := fun o => endF _ (sqT o _ _) = _) (fun k ρ => ∃ x y, ρ = [some (BxO b, .fz), some (.lst (l.map VS.prD), .fz), x, y]) ?_ ⟨none, none, rfl⟩ ?_
  · rintro k d ρ hk ⟨x, y, rfl⟩
    obtain ⟨p, hp, rfl⟩ := List.mem_map.mp (List.mem_of_getElem? hk)
    have hp := mem_boxO.mp (h p hp)
    clear hk
    walk_at "go"
    exact ⟨_, _, rfl⟩
  · rintro ρ ⟨x, y, rfl⟩
    walk_at "go"
    refine forRange_wp (Q := fun o => endF _ (sqT o _ _) = _) (fun k ρ => ∃ y, ρ = [some (BxO b, .fz), some (.lst (l.map VS.prD), .fz), x, y]) ?_ ⟨y, rfl⟩ ?_
    · rintro k ρ hk ⟨y, rfl⟩
      have e2 := r5 (n+1) b l[k] (h _ (List.getElem_mem hk))
      rw [prD_ap] at e2
      walk_at "go"
      exact ⟨_, rfl⟩
    · rintro ρ ⟨y, rfl⟩
      walk_at "go"

end LW
namespace LW
open PySem PySem.Spec PyProof.Rows L2 VS Ru

/-- the rows that fool a set, by what it lacks -/
def rowR (b : Bx) (w : Nat) : List Int :=
  if w = 0 then List.replicate b.a1.toNat 1 ++ List.replicate b.g0.toNat 0 ++ (twoE b.a0).2
  else if w = 1 then List.replicate b.a1.toNat 1 ++ [1]
  else List.replicate b.a1.toNat 1 ++ List.replicate (b.g1 + 1).toNat 0 ++ List.replicate b.a1.toNat 1
def rowW (b : Bx) (w : Nat) : List Int :=
  if w = 0 then List.replicate b.a1.toNat 1 ++ List.replicate b.g0.toNat 0 ++ (twoE b.a0).1
  else if w = 1 then List.replicate (b.a1 - 1).toNat 1 ++ [0, 1]
  else List.replicate b.a1.toNat 1 ++ List.replicate (b.g1 - 1).toNat 0 ++ [1, 0] ++ List.replicate b.a1.toNat 1
def wordW (w : Nat) : Str := if w = 0 then "quick" else if w = 1 then "begin" else if w = 2 then "end" else ""
/-- what a set lacks -/
def lackN (b : Bx) (c : List (Int × Int)) : Nat :=
  if (b.a0, b.g0) ∉ c then 0 else if (c.filter fun p => decide (p.1 = b.a1)) = [] then 1 else if (c.filter fun p => decide (p.2 = b.g1)) = [] then 2 else 3
def foeD (b : Bx) (w : Nat) : D := if w = 3 then .tup [.str "enough"] else .tup [.str "fooled", .str (wordW w), .lst ((rowR b w).map .int), .lst ((rowW b w).map .int)]
theorem filt_nil {c : List (Int × Int)} {x y : Int} : (c.filter fun p => decide (p.1 = x ∧ p.2 = y)) = [] ↔ (x, y) ∉ c := by
  rw [List.filter_eq_nil_iff]
  constructor
  · intro h hm
    have := h _ hm
    simp at this
  · intro h p hp
    simp only [decide_eq_true_eq]
    rintro ⟨rfl, rfl⟩
    exact h hp
theorem r8 (n : Nat) (b : Bx) (hb : b.Ok) (l : List (Int × Int)) (hl : l.length ≤ 16) (h : ∀ p, p ∈ l → p ∈ boxO b) : VS.run P F (n+4) 8 [(BxO b, .fz), (.lst (l.map VS.prD), .fz)] = .ok (foeD b (lackN b l), .dp) [] := by
  rw [un8]
  have e0 := r7 n b hb l hl h
  have e1 := r6 (n+2) b.a0 (by have := hb.a; have := hb.aa; have := hb.am; omega)
  have ib := imm_BxO b
  obtain ⟨h1, h2, h3, h4, h5, h6⟩ := hb
  have hlen : (twoE b.a0).1.length ≤ 200 ∧ (twoE b.a0).2.length ≤ 200 := by
    unfold twoE
    split
    · exact ⟨by simp, by simp⟩
    · refine ⟨by walk_at "len", by walk_at "len"⟩
  obtain ⟨l1, l2⟩ := hlen
  dsimp only [f8, BxO] at *
  have ek : (List.filter (fun a => decide (a.fst = b.a0) && decide (a.snd = b.g0)) l) = [] ↔ (b.a0, b.g0) ∉ l := by
    rw [← filt_nil]
    simp only [Bool.decide_and]
  walk_at "go"
  unfold foeD lackN rowR rowW
  by_cases c1 : (b.a0, b.g0) ∈ l
  · by_cases c2 : (l.filter fun p => decide (p.1 = b.a1)) = []
    · simp [c1, c2]; rfl
    · by_cases c3 : (l.filter fun p => decide (p.2 = b.g1)) = []
      · simp [c1, c2, c3]; rfl
      · simp [c1, c2, c3]
  · simp [c1]; rfl
theorem r31 (n : Nat) (b : Bx) (l : List (Int × Int)) (hl : l.length ≤ 100000) : VS.run P F (n+1) 31 [(bxD b, .dp), (.lst (l.map VS.prD), .fz)] = .ok (.str (wordW (lackN b l)), .dp) [] := by
  rw [un31]
  dsimp only [f31, bxD]
  walk_at "go"
  unfold lackN
  by_cases c1 : (b.a0, b.g0) ∈ l
  · by_cases c2 : (l.filter fun p => decide (p.1 = b.a1)) = []
    · simp [c1, c2]; rfl
    · by_cases c3 : (l.filter fun p => decide (p.2 = b.g1)) = []
      · simp [c1, c2, c3]; rfl
      · simp [c1, c2, c3]; rfl
  · simp [c1]; rfl
def lackL (b : Bx) (w : Nat) : List (Int × Int) := if w = 0 then [(b.a0, b.g0)] else if w = 1 then (boxO b).filter fun p => decide (p.1 = b.a1) else (boxO b).filter fun p => decide (p.2 = b.g1)
theorem r32 (n : Nat) (b : Bx) (hb : b.Ok) (w : Nat) (hw : w < 3) : VS.run P F (n+2) 32 [(bxD b, .dp), (.str (wordW w), .dp)] = .ok (.lst ((lackL b w).map VS.prD), .dp) [] := by
  rw [un32]
  have e0 := r24 n b hb
  have hl : (boxO b).length ≤ 16777216 := by
    obtain ⟨h1, h2, h3, h4, h5, h6⟩ := hb
    unfold boxO
    rw [boxA_len]
    have : (b.a1 + 1 - b.a0).toNat * (b.g1 + 1 - b.g0).toNat ≤ 59 * 59 := Nat.mul_le_mul (by omega) (by omega)
    omega
  dsimp only [f32, bxD] at *
  have : w = 0 ∨ w = 1 ∨ w = 2 := by omega
  rcases this with rfl | rfl | rfl
  · rw [show wordW 0 = "quick" from rfl, show lackL b 0 = [(b.a0, b.g0)] from rfl]
    walk_at "go"
    rfl
  · rw [show wordW 1 = "begin" from rfl, show lackL b 1 = (boxO b).filter fun p => decide (p.1 = b.a1) from rfl]
    walk_at "go"
  · rw [show wordW 2 = "end" from rfl, show lackL b 2 = (boxO b).filter fun p => decide (p.2 = b.g1) from rfl]
    walk_at "go"

end LW
namespace LW
open PySem PySem.Spec PyProof.Rows L2 VS Ru

theorem r17 {α : Type} {f : α → D} (hf : ∀ x, imm (f x) = true) (n : Nat) (p : Pu) (l : List α) (hl : l.length ≤ 100000) : ∃ (m : List α) (p' : Pu), VS.run P F (n+2) 17 [(PU p, .dp), (.lst (l.map f), .fz)] = .ok (.lst (m.map f), .dp) [(0, (PU p', .dp))] ∧ m.Perm l := by
  rw [un17]
  have ip := imm_PU
  have il : ∀ l : List α, immL (l.map f) = true := iml_map hf
  dsimp only [f17]
  walk_at "go"
  refine forRange_wp (Q := fun o => ∃ (m : List α) (p' : Pu), endF _ (sqT o _ _) = .ok (.lst (m.map f), .dp) [(0, (PU p', .dp))] ∧ m.Perm l) (fun k ρ => ∃ (m left : List α) (p' : Pu) (x : Option (D × Md)), ρ = [some (PU p', .dp), some (.lst (l.map f), .fz), some (.lst (left.map f), .dp), some (.lst (m.map f), .dp), x] ∧ m.length = k ∧ (m ++ left).Perm l) ?_ ⟨[], l, p, none, rfl, rfl, .refl _⟩ ?_
  · rintro k ρ hk ⟨m, left, p1, x, rfl, hm, hp⟩
    have e := hp.length_eq
    rw [List.length_append] at e
    have dr := q16 n
    walk_at "go"
    refine ⟨_, _, _, _, rfl, by simp; omega, ?_⟩
    rw [List.append_assoc]
    exact ((List.Perm.refl m).append (Ru.erp _)).trans hp
  · rintro ρ ⟨m, left, p1, x, rfl, hm, hp⟩
    have e := hp.length_eq
    rw [List.length_append] at e
    have : left = [] := List.eq_nil_of_length_eq_zero (by omega)
    subst this
    rw [List.append_nil] at hp
    walk_at "go"
    exact ⟨_, _, rfl, hp⟩
/-- a set by its number -/
def setOf : List (Int × Int) → Nat → List (Int × Int)
  | [], _ => []
  | p :: r, n => if n % 2 = 1 then p :: setOf r (n / 2) else setOf r (n / 2)
theorem setOf_snoc : ∀ (l : List (Int × Int)) (p : Int × Int) (n : Nat), setOf (l ++ [p]) n = setOf l n ++ (if n / 2 ^ l.length % 2 = 1 then [p] else [])
  | [], p, n => by simp [setOf]
  | q :: r, p, n => by
    have := setOf_snoc r p (n / 2)
    rw [Nat.div_div_eq_div_mul, ← Nat.pow_succ'] at this
    simp only [List.cons_append, setOf, this, List.length_cons]
    split <;> simp
theorem setOf_sub : ∀ {l : List (Int × Int)} {n : Nat} {p : Int × Int}, p ∈ setOf l n → p ∈ l
  | [], _, _, h => h
  | q :: r, n, p, h => by
    unfold setOf at h
    split at h
    · rcases List.mem_cons.mp h with rfl | h
      · exact .head _
      · exact .tail _ (setOf_sub h)
    · exact .tail _ (setOf_sub h)
theorem setOf_len : ∀ (l : List (Int × Int)) (n : Nat), (setOf l n).length ≤ l.length
  | [], _ => Nat.le_refl _
  | q :: r, n => by
    have := setOf_len r (n / 2)
    unfold setOf
    split <;> simp <;> omega
theorem r34 (n : Nat) (l : List (Int × Int)) (k : Nat) (hl : l.length ≤ 1000) : VS.run P F (n+1) 34 [(.lst (l.map VS.prD), .fz), (.int k, .dp)] = .ok (.lst ((setOf l k).map VS.prD), .dp) [] := by
  rw [un34]
  dsimp only [f34]
  walk_at "go"
  refine forGo_wp (Q := fun o => endF _ (sqT o _ _) = _) (fun j ρ => ∃ x, ρ = [some (.lst (l.map VS.prD), .fz), some (.int k, .dp), some (.lst ((setOf (l.take j) k).map VS.prD), .dp), some (.int ((k / 2 ^ j : Nat) : Int), .dp), x]) ?_ ⟨none, by simp [setOf]⟩ ?_
  · rintro j d ρ hk ⟨x, rfl⟩
    rw [List.getElem?_map] at hk
    obtain ⟨p, hp, rfl⟩ := Option.map_eq_some_iff.mp hk
    obtain ⟨hj, hp2⟩ := List.getElem?_eq_some_iff.mp hp
    have e : l.take (j + 1) = l.take j ++ [p] := by rw [List.take_add_one, hp]; rfl
    have e2 := setOf_snoc (l.take j) p k
    have e3 : (l.take j).length = j := by simp; omega
    have e4 := setOf_len (l.take j) k
    have e5 : k / 2 ^ (j + 1) = k / 2 ^ j / 2 := by rw [Nat.pow_succ, Nat.div_div_eq_div_mul]
    rw [e, e2, e3, e5]
    rw [e3] at e4
    generalize k / 2 ^ j = q
    clear hk e e2 hp2 hp
    by_cases c : q % 2 = 1
    · have c1 : ((q : Nat) : Int) % 2 = 1 := by omega
      have c2 : ((q : Nat) : Int) / 2 = ((q / 2 : Nat) : Int) := by omega
      rw [if_pos c]
      walk_at "go"
      exact ⟨_, rfl⟩
    · have c1 : ¬ ((q : Nat) : Int) % 2 = 1 := by omega
      have c2 : ((q : Nat) : Int) / 2 = ((q / 2 : Nat) : Int) := by omega
      rw [if_neg c, List.append_nil]
      walk_at "go"
      exact ⟨_, rfl⟩
  · rintro ρ ⟨x, rfl⟩
    walk_at "go"

end LW
namespace LW
open PySem PySem.Spec PyProof.Rows L2 VS Ru

def optI : Option Int → D
  | none => .non
  | some i => .int i
theorem imm_optI (o : Option Int) : imm (optI o) = true := by cases o <;> simp [optI, imm]
/-- the notes that two lists of moments latch -/
def latM (bs es l : List Int) : Option Int × List (Int × Int) := La.lat (fun m => decide (m ∈ bs)) (fun m => decide (m ∈ es)) l
theorem latM_snoc (bs es l : List Int) (m : Int) : latM bs es (l ++ [m]) = La.stp (fun m => decide (m ∈ bs)) (fun m => decide (m ∈ es)) (latM bs es l) m := by
  unfold latM La.lat
  rw [List.foldl_append]
  rfl
theorem latM_len (bs es : List Int) : ∀ l : List Int, (latM bs es l).2.length ≤ l.length := by
  have key : ∀ (l : List Int) (s : Option Int × List (Int × Int)), (l.foldl (La.stp (fun m => decide (m ∈ bs)) (fun m => decide (m ∈ es))) s).2.length ≤ s.2.length + l.length := by
    intro l
    induction l with
    | nil => intro s; simp
    | cons a r ih =>
      intro s
      have h := ih (La.stp (fun m => decide (m ∈ bs)) (fun m => decide (m ∈ es)) s a)
      have h2 : (La.stp (fun m => decide (m ∈ bs)) (fun m => decide (m ∈ es)) s a).2.length ≤ s.2.length + 1 := by
        unfold La.stp
        split
        · split <;> simp
        · split <;> simp
      simp only [List.foldl_cons, List.length_cons]
      omega
  intro l
  have := key l (none, [])
  simpa [latM, La.lat] using this
theorem r14 (n : Nat) (bs es : List Int) (hl : bs.length + es.length ≤ 100000) (hd : ∀ m, ¬ (m ∈ bs ∧ m ∈ es)) : VS.run P F (n+1) 14 [(.lst (bs.map .int), .fz), (.lst (es.map .int), .fz)] = .ok (.lst ((latM bs es (sortI (bs ++ es))).2.map VS.prD), .dp) [] := by
  rw [un14]
  have e0 : bs.filter (fun m => decide (m ∈ es)) = [] := List.filter_eq_nil_iff.mpr fun m hm => by
    simp only [decide_eq_true_eq]
    exact fun h => hd m ⟨hm, h⟩
  have hlen : (sortI (bs ++ es)).length = bs.length + es.length := by
    have := (List.mergeSort_perm (bs ++ es) fun a b => decide (a ≤ b)).length_eq
    rw [List.length_append] at this
    exact this
  obtain ⟨ms, hms⟩ : ∃ ms, sortI (bs ++ es) = ms := ⟨_, rfl⟩
  rw [hms] at hlen ⊢
  have io := imm_optI
  dsimp only [f14]
  walk_at "go"
  refine forGo_wp (Q := fun o => endF _ (sqT o _ _) = _) (fun k ρ => ∃ x, ρ = [some (.lst (bs.map .int), .fz), some (.lst (es.map .int), .fz), some (.lst [], .dp), some (.lst ((latM bs es (ms.take k)).2.map VS.prD), .dp), some (optI (latM bs es (ms.take k)).1, .dp), x]) ?_ ⟨none, rfl⟩ ?_
  · rintro k d ρ hk ⟨x, rfl⟩
    rw [List.getElem?_map] at hk
    obtain ⟨m, hm, rfl⟩ := Option.map_eq_some_iff.mp hk
    obtain ⟨hj, hm2⟩ := List.getElem?_eq_some_iff.mp hm
    have e : ms.take (k + 1) = ms.take k ++ [m] := by rw [List.take_add_one, hm]; rfl
    have e4 := latM_len bs es (ms.take k)
    rw [List.length_take] at e4
    rw [e, latM_snoc]
    generalize latM bs es (ms.take k) = st at *
    obtain ⟨o, l⟩ := st
    dsimp only at e4
    clear hk e hm2 hm hms
    cases o with
    | none =>
      have q : optI none = .non := rfl
      by_cases c : m ∈ bs
      · have q2 : La.stp (fun m => decide (m ∈ bs)) (fun m => decide (m ∈ es)) (none, l) m = (some m, l) := by simp [La.stp, c]
        have q3 : optI (some m) = .int m := rfl
        walk_at "go"
        exact ⟨_, rfl⟩
      · have q2 : La.stp (fun m => decide (m ∈ bs)) (fun m => decide (m ∈ es)) (none, l) m = (none, l) := by simp [La.stp, c]
        walk_at "go"
        exact ⟨_, rfl⟩
    | some b =>
      have q : optI (some b) = .int b := rfl
      by_cases c : m ∈ es
      · have q2 : La.stp (fun m => decide (m ∈ bs)) (fun m => decide (m ∈ es)) (some b, l) m = (none, l ++ [(b, m)]) := by simp [La.stp, c]
        have q3 : optI none = .non := rfl
        walk_at "go"
        exact ⟨_, rfl⟩
      · have q2 : La.stp (fun m => decide (m ∈ bs)) (fun m => decide (m ∈ es)) (some b, l) m = (some b, l) := by simp [La.stp, c]
        walk_at "go"
        exact ⟨_, rfl⟩
  · rintro ρ ⟨x, rfl⟩
    have et : ms.take (bs.length + es.length) = ms := List.take_of_length_le (by omega)
    walk_at "go"
theorem r23 (n : Nat) (bs es : List Int) (hl : bs.length + es.length ≤ 100000) (N : Nat) (hN : N < 1000000) (h : ∀ m, m ∈ bs ∨ m ∈ es → m ≤ N) (hm : N = 0 ∨ (N : Int) ∈ bs ∨ (N : Int) ∈ es) : VS.run P F (n+1) 23 [(.lst (bs.map .int), .fz), (.lst (es.map .int), .fz)] = .ok (.lst ((latM bs es (La.upT 0 (N + 1))).2.map VS.prD), .dp) [] := by
  rw [un23]
  have em : maxI (bs ++ es ++ [0]) = some (N : Int) := by
    refine maxI_is ?_ fun y hy => ?_
    · simp only [List.mem_append, List.mem_singleton]
      rcases hm with h | h | h
      · right; omega
      · exact .inl (.inl h)
      · exact .inl (.inr h)
    · simp only [List.mem_append, List.mem_singleton] at hy
      rcases hy with hy | hy
      · exact h y hy
      · omega
  dsimp only [f23]
  walk_at "go"
  have eN : ((N : Int) + 1).toNat = N + 1 := by omega
  rw [eN]
  refine forRange_wp (Q := fun o => endF _ (sqT o _ _) = _) (fun k ρ => ∃ (x : Option (D × Md)) (b : Int), ρ = [some (.lst (bs.map .int), .fz), some (.lst (es.map .int), .fz), some (.lst ((latM bs es (La.upT 0 k)).2.map VS.prD), .dp), some (.int (if (latM bs es (La.upT 0 k)).1 = none then 0 else 1), .dp), some (.int b, .dp), x] ∧ ∀ y, (latM bs es (La.upT 0 k)).1 = some y → b = y) ?_ ⟨none, 0, rfl, fun y h => by cases h⟩ ?_
  · rintro k ρ hk ⟨x, b, rfl, hb⟩
    have e4 := latM_len bs es (La.upT 0 k)
    have e5 : (La.upT 0 k).length = k := by simp [La.upT]
    rw [e5] at e4
    rw [La.upT_s, latM_snoc]
    generalize latM bs es (La.upT 0 k) = st at *
    obtain ⟨o, l⟩ := st
    dsimp only at e4 hb
    rw [show (0 : Int) + (k : Int) = (k : Int) by omega]
    generalize (k : Int) = m at *
    cases o with
    | none =>
      by_cases c : m ∈ bs
      · have q2 : La.stp (fun m => decide (m ∈ bs)) (fun m => decide (m ∈ es)) (none, l) m = (some m, l) := by simp [La.stp, c]
        walk_at "go"
        exact ⟨_, _, rfl, fun y h => Option.some.inj h⟩
      · have q2 : La.stp (fun m => decide (m ∈ bs)) (fun m => decide (m ∈ es)) (none, l) m = (none, l) := by simp [La.stp, c]
        walk_at "go"
        exact ⟨_, _, rfl, fun y h => by cases h⟩
    | some b' =>
      have hb := hb b' rfl
      subst hb
      by_cases c : m ∈ es
      · have q2 : La.stp (fun m => decide (m ∈ bs)) (fun m => decide (m ∈ es)) (some b, l) m = (none, l ++ [(b, m)]) := by simp [La.stp, c]
        walk_at "go"
        exact ⟨_, _, rfl, fun y h => by cases h⟩
      · have q2 : La.stp (fun m => decide (m ∈ bs)) (fun m => decide (m ∈ es)) (some b, l) m = (some b, l) := by simp [La.stp, c]
        walk_at "go"
        exact ⟨_, _, rfl, fun y h => Option.some.inj h⟩
  · rintro ρ ⟨x, b, rfl, hb⟩
    walk_at "go"

end LW
namespace LW
open PySem PySem.Spec PyProof.Rows L2 VS Ru

def qd (x y : Int × Int) : D := .tup [.int x.1, .int y.1, .int x.2, .int y.2]
theorem imm_qd (x y : Int × Int) : imm (qd x y) = true := by simp [qd, imm, immL]
/-- both hearings of a row, note by note -/
def spL (q s : List (Int × Int)) : List D := (List.range q.length).map fun k => qd (q.getD k (0, 0)) (s.getD k (0, 0))
def spD (row : List Int) (b : Bx) : D :=
  if (stn row b.a0 b.g0).length = (stn row b.a1 b.g1).length then .tup [.str "same", .lst (spL (stn row b.a0 b.g0) (stn row b.a1 b.g1))]
  else .tup [.str "unlike", .int ((stn row b.a1 b.g1).length : Nat), .int ((stn row b.a0 b.g0).length : Nat)]
theorem gD {l : List (Int × Int)} {k : Nat} (h : k < l.length) : l[k] = l.getD k (0, 0) := by simp [h]
theorem r13 (n : Nat) (b : Bx) (hb : b.Ok) (row : List Int) (h : Bin row) (hl : 0 < row.length ∧ row.length ≤ 400) : VS.run P F (n+5) 13 [(.lst (row.map .int), .fz), (BxO b, .fz)] = .ok (spD row b, if (stn row b.a0 b.g0).length = (stn row b.a1 b.g1).length then .fz else .dp) [] := by
  rw [un13]
  have ib := imm_BxO b
  obtain ⟨h1, h2, h3, h4, h5, h6⟩ := hb
  have e1 := r12 n row b.a0 b.g0 h hl (by omega) (by omega)
  have e2 := r12 n row b.a1 b.g1 h hl (by omega) (by omega)
  have l1 := stn_len row b.a0 b.g0
  have l2 := stn_len row b.a1 b.g1
  unfold spD
  generalize stn row b.a0 b.g0 = q at *
  generalize stn row b.a1 b.g1 = s at *
  dsimp only [f13, BxO] at *
  by_cases c : q.length = s.length
  · rw [if_pos c, if_pos c]
    walk_at "go"
    refine forRange_wp (Q := fun o => endF _ (sqT o _ _) = _) (fun k ρ => ∃ x, ρ = [some (.lst (row.map .int), .fz), some (.ins 6 [("a0", .int b.a0), ("a1", .int b.a1), ("g0", .int b.g0), ("g1", .int b.g1)], .fz), some (.lst (q.map VS.prD), .dp), some (.lst (s.map VS.prD), .dp), some (.lst ((List.range k).map fun k => qd (q.getD k (0, 0)) (s.getD k (0, 0))), .dp), x]) ?_ ⟨none, rfl⟩ ?_
    · rintro k ρ hk ⟨x, rfl⟩
      have g1 : ∀ h : k < q.length, q[k] = q.getD k (0, 0) := fun h => gD h
      have g2 : ∀ h : k < s.length, s[k] = s.getD k (0, 0) := fun h => gD h
      rw [← range_snoc]
      have eq : qd (q.getD k (0, 0)) (s.getD k (0, 0)) = .tup [.int (q.getD k (0, 0)).1, .int (s.getD k (0, 0)).1, .int (q.getD k (0, 0)).2, .int (s.getD k (0, 0)).2] := rfl
      have iq : ∀ k, imm (qd (q.getD k (0, 0)) (s.getD k (0, 0))) = true := fun k => imm_qd _ _
      walk_at "go"
      exact ⟨_, rfl⟩
    · rintro ρ ⟨x, rfl⟩
      have iq : immL (spL q s) = true := iml_range fun k => imm_qd _ _
      unfold spL at *
      walk_at "go"
  · rw [if_neg c, if_neg c]
    have c' : ¬ (q.length : Int) = s.length := by omega
    walk_at "go"
theorem r22 (n : Nat) (b : Bx) (hb : b.Ok) (row : List Int) (hl : row.length ≤ 400) : VS.run P F (n+4) 22 [(.lst (row.map .int), .fz), (bxD b, .dp)] = .ok (spD row b, .dp) [] := by
  rw [un22]
  obtain ⟨h1, h2, h3, h4, h5, h6⟩ := hb
  have e1 := r21 n row b.a0 b.g0 (by omega) (by omega) (by omega)
  have e2 := r21 n row b.a1 b.g1 (by omega) (by omega) (by omega)
  have l1 := stn_len row b.a0 b.g0
  have l2 := stn_len row b.a1 b.g1
  unfold spD
  generalize stn row b.a0 b.g0 = q at *
  generalize stn row b.a1 b.g1 = s at *
  dsimp only [f22, bxD] at *
  by_cases c : q.length = s.length
  · rw [if_pos c]
    walk_at "go"
    rw [cgo_rng (fun k => qd (q.getD k (0, 0)) (s.getD k (0, 0))) ?_ (by omega)]
    · have iq : immL (spL q s) = true := iml_range fun k => imm_qd _ _
      unfold spL at *
      walk_at "go"
    · intro k hk
      have g1 : ∀ h : k < q.length, q[k] = q.getD k (0, 0) := fun h => gD h
      have g2 : ∀ h : k < s.length, s[k] = s.getD k (0, 0) := fun h => gD h
      have eq : qd (q.getD k (0, 0)) (s.getD k (0, 0)) = .tup [.int (q.getD k (0, 0)).1, .int (s.getD k (0, 0)).1, .int (q.getD k (0, 0)).2, .int (s.getD k (0, 0)).2] := rfl
      walk_at "go"
  · rw [if_neg c]
    have c' : ¬ (q.length : Int) = s.length := by omega
    walk_at "go"

end LW
namespace LW
open PySem PySem.Spec PyProof.Rows L2 VS Ru

theorem stn_sg {s : List (Bool × Nat)} (hA : Vo.Alt s) {a g : Int} (ha : 1 ≤ a) (hg : 1 ≤ g) : stn (Vo.sgr s) a g = (Vo.sgs a.toNat g.toNat s 0 none).map La.up := by
  unfold stn
  rw [Vo.nts_sg (by omega) (by omega) hA (fun u => ?_) (by rw [Vo.sgr_len]; omega)]
  exact Vo.sgr_get s u
/-- the stretches of the rows that fool -/
def segR (b : Bx) (w : Nat) : List (Bool × Nat) :=
  if w = 0 then (if b.a0 = 2 then [(true, b.a1.toNat), (false, b.g0.toNat), (true, 1), (false, 2), (true, 1)] else [(true, b.a1.toNat), (false, b.g0.toNat), (true, (b.a0 - 1).toNat), (false, 1), (true, (b.a0 - 1).toNat)])
  else if w = 1 then [(true, b.a1.toNat + 1)]
  else [(true, b.a1.toNat), (false, (b.g1 + 1).toNat), (true, b.a1.toNat)]
def segW (b : Bx) (w : Nat) : List (Bool × Nat) :=
  if w = 0 then (if b.a0 = 2 then [(true, b.a1.toNat), (false, b.g0.toNat), (true, 2), (false, 1), (true, 1)] else [(true, b.a1.toNat), (false, b.g0.toNat), (true, b.a0.toNat), (false, 1), (true, (b.a0 - 2).toNat)])
  else if w = 1 then [(true, (b.a1 - 1).toNat), (false, 1), (true, 1)]
  else [(true, b.a1.toNat), (false, (b.g1 - 1).toNat), (true, 1), (false, 1), (true, b.a1.toNat)]
theorem rowR_sg (b : Bx) (w : Nat) : rowR b w = Vo.sgr (segR b w) := by
  unfold rowR segR twoE
  split
  · split <;> simp [Vo.sgr, List.replicate_succ]
  · split
    · simp [Vo.sgr, List.replicate_succ']
    · simp [Vo.sgr]
theorem rowW_sg (b : Bx) (w : Nat) : rowW b w = Vo.sgr (segW b w) := by
  unfold rowW segW twoE
  split
  · split <;> simp [Vo.sgr, List.replicate_succ]
  · split
    · simp [Vo.sgr, List.replicate_succ]
    · simp [Vo.sgr, List.replicate_succ]
section
variable {b : Bx} (hb : b.Ok)
include hb
theorem altR (w : Nat) : Vo.Alt (segR b w) := by
  obtain ⟨h1, h2, h3, h4, h5, h6⟩ := hb
  unfold segR
  split
  · split <;> simp [Vo.Alt, Vo.hdT] <;> omega
  · split <;> simp [Vo.Alt, Vo.hdT] <;> omega
theorem altW (w : Nat) : Vo.Alt (segW b w) := by
  obtain ⟨h1, h2, h3, h4, h5, h6⟩ := hb
  unfold segW
  split
  · split <;> simp [Vo.Alt, Vo.hdT] <;> omega
  · split <;> simp [Vo.Alt, Vo.hdT] <;> omega
/-- the notes of the rows that fool, on an organ of the box -/
theorem notesR (w : Nat) (hw : w < 3) {p : Int × Int} (hp : p ∈ boxO b) : Vo.sgs p.1.toNat p.2.toNat (segR b w) 0 none =
    if w = 0 then (if p.2 = b.g0 then [(p.1.toNat, b.a1.toNat + p.2.toNat)] else [(p.1.toNat, Vo.tot (segR b w) + p.2.toNat)])
    else if w = 1 then [(p.1.toNat, b.a1.toNat + 1 + p.2.toNat)]
    else [(p.1.toNat, b.a1.toNat + p.2.toNat), (b.a1.toNat + (b.g1 + 1).toNat + p.1.toNat, Vo.tot (segR b w) + p.2.toNat)] := by
  have hp := mem_boxO.mp hp
  obtain ⟨h1, h2, h3, h4, h5, h6⟩ := hb
  have : w = 0 ∨ w = 1 ∨ w = 2 := by omega
  rcases this with rfl | rfl | rfl
  · rw [if_pos rfl, show segR b 0 = _ from if_pos rfl]
    by_cases d : b.a0 = 2
    · rw [if_pos d]
      by_cases c : p.2 = b.g0
      · rw [if_pos c]
        simp (disch := omega) only [Vo.sgs, Vo.n_le_t, Vo.n_le_f]
        simp
      · rw [if_neg c]
        simp (disch := omega) only [Vo.sgs, Vo.n_le_t, Vo.n_le_f]
        simp [Vo.tot]
        omega
    · rw [if_neg d]
      by_cases c : p.2 = b.g0
      · rw [if_pos c]
        simp (disch := omega) only [Vo.sgs, Vo.n_le_t, Vo.n_le_f]
        simp
      · rw [if_neg c]
        simp (disch := omega) only [Vo.sgs, Vo.n_le_t, Vo.n_le_f]
        simp [Vo.tot]
        omega
  · rw [if_neg (by omega), if_pos rfl, show segR b 1 = [(true, b.a1.toNat + 1)] from rfl]
    simp (disch := omega) only [Vo.sgs, Vo.n_le_t, Vo.n_le_f]
    simp
  · rw [if_neg (by omega), if_neg (by omega), show segR b 2 = [(true, b.a1.toNat), (false, (b.g1 + 1).toNat), (true, b.a1.toNat)] from rfl]
    simp (disch := omega) only [Vo.sgs, Vo.n_le_t, Vo.n_le_f]
    simp [Vo.tot]
    omega
theorem notesW (w : Nat) (hw : w < 3) {p : Int × Int} (hp : p ∈ boxO b) : Vo.sgs p.1.toNat p.2.toNat (segW b w) 0 none =
    if w = 0 then (if p.2 = b.g0 then (if p.1 = b.a0 then [(p.1.toNat, b.a1.toNat + p.2.toNat), (b.a1.toNat + b.g0.toNat + b.a0.toNat, Vo.tot (segR b w) + p.2.toNat)] else [(p.1.toNat, b.a1.toNat + p.2.toNat)]) else [(p.1.toNat, Vo.tot (segR b w) + p.2.toNat)])
    else if w = 1 then (if p.1 = b.a1 then [] else [(p.1.toNat, b.a1.toNat + 1 + p.2.toNat)])
    else if p.2 = b.g1 then [(p.1.toNat, Vo.tot (segR b w) + p.2.toNat)] else [(p.1.toNat, b.a1.toNat + p.2.toNat), (b.a1.toNat + (b.g1 + 1).toNat + p.1.toNat, Vo.tot (segR b w) + p.2.toNat)] := by
  have hp := mem_boxO.mp hp
  obtain ⟨h1, h2, h3, h4, h5, h6⟩ := hb
  have : w = 0 ∨ w = 1 ∨ w = 2 := by omega
  rcases this with rfl | rfl | rfl
  · rw [if_pos rfl, show segW b 0 = _ from if_pos rfl, show segR b 0 = _ from if_pos rfl]
    by_cases d : b.a0 = 2
    · rw [if_pos d, if_pos d]
      by_cases c : p.2 = b.g0
      · rw [if_pos c]
        by_cases e : p.1 = b.a0
        · rw [if_pos e]
          simp (disch := omega) only [Vo.sgs, Vo.n_le_t, Vo.n_le_f]
          simp [Vo.tot]
          omega
        · rw [if_neg e]
          simp (disch := omega) only [Vo.sgs, Vo.n_le_t, Vo.n_le_f]
          simp
      · rw [if_neg c]
        simp (disch := omega) only [Vo.sgs, Vo.n_le_t, Vo.n_le_f]
        simp [Vo.tot]
        omega
    · rw [if_neg d, if_neg d]
      by_cases c : p.2 = b.g0
      · rw [if_pos c]
        by_cases e : p.1 = b.a0
        · rw [if_pos e]
          simp (disch := omega) only [Vo.sgs, Vo.n_le_t, Vo.n_le_f]
          simp [Vo.tot]
          omega
        · rw [if_neg e]
          simp (disch := omega) only [Vo.sgs, Vo.n_le_t, Vo.n_le_f]
          simp
      · rw [if_neg c]
        simp (disch := omega) only [Vo.sgs, Vo.n_le_t, Vo.n_le_f]
        simp [Vo.tot]
        omega
  · rw [if_neg (by omega), if_pos rfl, show segW b 1 = [(true, (b.a1 - 1).toNat), (false, 1), (true, 1)] from rfl]
    by_cases c : p.1 = b.a1
    · rw [if_pos c]
      simp (disch := omega) only [Vo.sgs, Vo.n_le_t, Vo.n_le_f]
    · rw [if_neg c]
      simp (disch := omega) only [Vo.sgs, Vo.n_le_t, Vo.n_le_f]
      simp
      omega
  · rw [if_neg (by omega), if_neg (by omega), show segW b 2 = [(true, b.a1.toNat), (false, (b.g1 - 1).toNat), (true, 1), (false, 1), (true, b.a1.toNat)] from rfl, show segR b 2 = [(true, b.a1.toNat), (false, (b.g1 + 1).toNat), (true, b.a1.toNat)] from rfl]
    by_cases c : p.2 = b.g1
    · rw [if_pos c]
      simp (disch := omega) only [Vo.sgs, Vo.n_le_t, Vo.n_le_f]
      simp [Vo.tot]
      omega
    · rw [if_neg c]
      simp (disch := omega) only [Vo.sgs, Vo.n_le_t, Vo.n_le_f]
      simp [Vo.tot]
      omega
end

end LW
namespace LW
open PySem PySem.Spec PyProof.Rows L2 VS Ru
section
variable {b : Bx} (hb : b.Ok)
include hb
theorem boxO_len : (boxO b).length ≤ 16777216 := by
  obtain ⟨h1, h2, h3, h4, h5, h6⟩ := hb
  unfold boxO
  rw [boxA_len]
  have : (b.a1 + 1 - b.a0).toNat * (b.g1 + 1 - b.g0).toNat ≤ 59 * 59 := Nat.mul_le_mul (by omega) (by omega)
  omega
theorem stnR (w : Nat) {p : Int × Int} (hp : p ∈ boxO b) : stn (rowR b w) p.1 p.2 = (Vo.sgs p.1.toNat p.2.toNat (segR b w) 0 none).map La.up := by
  have h := mem_boxO.mp hp
  have := hb.a
  have := hb.g
  rw [rowR_sg]
  exact stn_sg (altR hb w) (by omega) (by omega)
theorem stnW (w : Nat) {p : Int × Int} (hp : p ∈ boxO b) : stn (rowW b w) p.1 p.2 = (Vo.sgs p.1.toNat p.2.toNat (segW b w) 0 none).map La.up := by
  have h := mem_boxO.mp hp
  have := hb.a
  have := hb.g
  rw [rowW_sg]
  exact stn_sg (altW hb w) (by omega) (by omega)
omit hb in
theorem mem_lackL {w : Nat} (hw : w < 3) {p : Int × Int} (hp : p ∈ boxO b) : p ∈ lackL b w ↔ if w = 0 then p.1 = b.a0 ∧ p.2 = b.g0 else if w = 1 then p.1 = b.a1 else p.2 = b.g1 := by
  have : w = 0 ∨ w = 1 ∨ w = 2 := by omega
  rcases this with rfl | rfl | rfl
  · rw [if_pos rfl, show lackL b 0 = [(b.a0, b.g0)] from rfl, List.mem_singleton]
    exact ⟨fun h => by rw [h]; exact ⟨rfl, rfl⟩, fun h => Prod.ext h.1 h.2⟩
  · rw [if_neg (by omega), if_pos rfl, show lackL b 1 = (boxO b).filter fun p => decide (p.1 = b.a1) from rfl, List.mem_filter]
    simp [hp]
  · rw [if_neg (by omega), if_neg (by omega), show lackL b 2 = (boxO b).filter fun p => decide (p.2 = b.g1) from rfl, List.mem_filter]
    simp [hp]
/-- on which organs the two rows part -/
theorem part_iff (w : Nat) (hw : w < 3) {p : Int × Int} (hp : p ∈ boxO b) : stn (rowR b w) p.1 p.2 ≠ stn (rowW b w) p.1 p.2 ↔ p ∈ lackL b w := by
  rw [mem_lackL hw hp, stnR hb w hp, stnW hb w hp, notesR hb w hw hp, notesW hb w hw hp]
  have : w = 0 ∨ w = 1 ∨ w = 2 := by omega
  rcases this with rfl | rfl | rfl
  · by_cases c : p.2 = b.g0
    · by_cases d : p.1 = b.a0
      · simp [c, d]
      · simp [c, d]
    · simp [c]
  · by_cases d : p.1 = b.a1 <;> simp [d]
  · by_cases d : p.2 = b.g1 <;> simp [d]
theorem lackL_eq (w : Nat) (hw : w < 3) : (boxO b).filter (fun p => decide (stn (rowR b w) p.1 p.2 ≠ stn (rowW b w) p.1 p.2)) = lackL b w := by
  have e : (boxO b).filter (fun p => decide (stn (rowR b w) p.1 p.2 ≠ stn (rowW b w) p.1 p.2)) = (boxO b).filter fun p => decide (p ∈ lackL b w) := by
    refine List.filter_congr fun p hp => ?_
    exact decide_eq_decide.mpr (part_iff hb w hw hp)
  rw [e]
  have : w = 0 ∨ w = 1 ∨ w = 2 := by omega
  have hb' := hb
  obtain ⟨h1, h2, h3, h4, h5, h6⟩ := hb'
  rcases this with rfl | rfl | rfl
  · rw [show lackL b 0 = [(b.a0, b.g0)] from rfl]
    have hm : (b.a0, b.g0) ∈ boxO b := mem_boxO.mpr (by dsimp only; omega)
    have nd := boxO_nd b
    generalize boxO b = l at *
    clear e
    induction l with
    | nil => cases hm
    | cons a r ih =>
      have nd' := List.nodup_cons.mp nd
      by_cases c : a = (b.a0, b.g0)
      · have : r.filter (fun p => decide (p ∈ [(b.a0, b.g0)])) = [] := List.filter_eq_nil_iff.mpr fun q hq => by
          simp only [List.mem_singleton, decide_eq_true_eq]
          intro z
          exact nd'.1 (by rw [c, ← z]; exact hq)
        rw [List.filter_cons, this, c]
        simp
      · rcases List.mem_cons.mp hm with z | z
        · exact absurd z.symm c
        · rw [List.filter_cons, ih z nd'.2]
          simp [c]
  · rw [show lackL b 1 = (boxO b).filter fun p => decide (p.1 = b.a1) from rfl]
    exact List.filter_congr fun p hp => decide_eq_decide.mpr (by rw [List.mem_filter]; simp [hp])
  · rw [show lackL b 2 = (boxO b).filter fun p => decide (p.2 = b.g1) from rfl]
    exact List.filter_congr fun p hp => decide_eq_decide.mpr (by rw [List.mem_filter]; simp [hp])
theorem quickM : (b.a0, b.g0) ∈ boxO b := mem_boxO.mpr (by have := hb.aa; have := hb.gg; dsimp only; omega)
theorem slowM : (b.a1, b.g1) ∈ boxO b := mem_boxO.mpr (by have := hb.aa; have := hb.gg; dsimp only; omega)
/-- the first row sounds as many notes on both ends -/
theorem sameR (w : Nat) (hw : w < 3) (hww : w = 1 → b.a0 < b.a1) : (stn (rowR b w) b.a0 b.g0).length = (stn (rowR b w) b.a1 b.g1).length := by
  have e1 := stnR hb w (quickM hb)
  have e2 := stnR hb w (slowM hb)
  dsimp only at e1 e2
  rw [e1, e2, notesR hb w hw (quickM hb), notesR hb w hw (slowM hb), List.length_map, List.length_map]
  have : w = 0 ∨ w = 1 ∨ w = 2 := by omega
  rcases this with rfl | rfl | rfl
  · by_cases c : b.g1 = b.g0 <;> simp [c]
  · simp
  · simp
/-- the other one does not sound that number on both -/
theorem unlikeW (w : Nat) (hw : w < 3) (h1 : w = 1 → b.a0 < b.a1) (h2 : w = 2 → b.g0 < b.g1) : ¬ ((stn (rowW b w) b.a0 b.g0).length = (stn (rowR b w) b.a0 b.g0).length ∧ (stn (rowW b w) b.a1 b.g1).length = (stn (rowR b w) b.a0 b.g0).length) := by
  have e1 := stnR hb w (quickM hb)
  have e2 := stnW hb w (slowM hb)
  have e3 := stnW hb w (quickM hb)
  dsimp only at e1 e2 e3
  rw [e1, e2, e3, notesR hb w hw (quickM hb), notesW hb w hw (slowM hb), notesW hb w hw (quickM hb), List.length_map, List.length_map, List.length_map]
  have : w = 0 ∨ w = 1 ∨ w = 2 := by omega
  rcases this with rfl | rfl | rfl
  · simp
  · simp
  · simp
theorem binRW (w : Nat) : Bin (rowR b w) ∧ Bin (rowW b w) ∧ (0 < (rowR b w).length ∧ (rowR b w).length ≤ 300) ∧ 0 < (rowW b w).length ∧ (rowW b w).length ≤ 300 := by
  have key : ∀ s : List (Bool × Nat), Bin (Vo.sgr s) := fun s => by
    induction s with
    | nil => exact Ru.bin_nil
    | cons q r ih =>
      obtain ⟨x, k⟩ := q
      cases x
      · exact Ru.bin_app Ru.bin_rep0 ih
      · exact Ru.bin_app Ru.bin_rep1 ih
  obtain ⟨h1, h2, h3, h4, h5, h6⟩ := hb
  rw [rowR_sg, rowW_sg, Vo.sgr_len, Vo.sgr_len]
  refine ⟨key _, key _, ?_⟩
  unfold segR segW
  split
  · split <;> (simp only [Vo.tot]; omega)
  · split <;> (simp only [Vo.tot]; omega)
end

end LW
namespace LW
open PySem PySem.Spec PyProof.Rows L2 VS Ru

theorem r33 (n : Nat) (b : Bx) (hb : b.Ok) (w : Nat) (hw : w < 3) (h1 : w = 1 → b.a0 < b.a1) (h2 : w = 2 → b.g0 < b.g1) : VS.run P F (n+6) 33 [(bxD b, .dp), (.str (wordW w), .dp), (.lst ((rowR b w).map .int), .fz), (.lst ((rowW b w).map .int), .fz)] = .ok (.bl true, .dp) [] := by
  rw [un33]
  obtain ⟨b1, b2, b3, b4⟩ := binRW hb w
  have bl := boxO_len hb
  have e0 := r24 (n+4) b hb
  have e1 := r25 (n+1) b hb
  have e2 := r32 (n+3) b hb w hw
  have e3 := r13 n b hb (rowR b w) b1 (by omega)
  have e4 := r13 n b hb (rowW b w) b2 (by omega)
  have e5 := r22 (n+1) b hb (rowW b w) (by omega)
  have hm : ∀ p : Int × Int, p ∈ boxO b → (2 ≤ p.1 ∧ p.1 ≤ 60) ∧ 2 ≤ p.2 ∧ p.2 ≤ 60 := fun p hp => by
    have := mem_boxO.mp hp
    have := hb.a
    have := hb.g
    have := hb.am
    have := hb.gm
    omega
  have e6 := fun (p : Int × Int) (hp : p ∈ boxO b) => r21 (n+2) (rowR b w) p.1 p.2 (by omega) (by have := hm p hp; omega) (by have := hm p hp; omega)
  have e7 := fun (p : Int × Int) (hp : p ∈ boxO b) => r21 (n+2) (rowW b w) p.1 p.2 (by omega) (by have := hm p hp; omega) (by have := hm p hp; omega)
  have e8 := fun (p : Int × Int) (hp : p ∈ boxO b) => r12 (n+1) (rowR b w) p.1 p.2 b1 (by omega) (by have := hm p hp; omega) (by have := hm p hp; omega)
  have e9 := fun (p : Int × Int) (hp : p ∈ boxO b) => r12 (n+1) (rowW b w) p.1 p.2 b2 (by omega) (by have := hm p hp; omega) (by have := hm p hp; omega)
  have e10 := r21 (n+2) (rowR b w) b.a0 b.g0 (by omega) (by have := hb.a; omega) (by have := hb.g; have := hb.gg; have := hb.gm; omega)
  have hL : (boxO b).filter (fun p => decide (¬ stn (rowR b w) p.1 p.2 = stn (rowW b w) p.1 p.2)) = lackL b w := lackL_eq hb w hw
  have s1 := sameR hb w hw h1
  have s2 := unlikeW hb w hw h1 h2
  clear b1 b2 hm
  generalize rowR b w = R at *
  generalize rowW b w = W at *
  rw [show spD R b = .tup [.str "same", .lst (spL (stn R b.a0 b.g0) (stn R b.a1 b.g1))] from if_pos s1] at e3
  generalize spL (stn R b.a0 b.g0) (stn R b.a1 b.g1) = lr at e3
  have ib := imm_bx b
  have ibo := imm_BxO b
  generalize lackL b w = LL at *
  dsimp only [f33, bxD] at *
  by_cases c : (stn W b.a0 b.g0).length = (stn W b.a1 b.g1).length
  · have ed : spD W b = .tup [.str "same", .lst (spL (stn W b.a0 b.g0) (stn W b.a1 b.g1))] := if_pos c
    have el : (spL (stn W b.a0 b.g0) (stn W b.a1 b.g1)).length = (stn W b.a0 b.g0).length := by simp [spL]
    rw [ed] at e4 e5
    have hs : (spL (stn W b.a0 b.g0) (stn W b.a1 b.g1)).all (shk 7) = true := List.all_eq_true.mpr fun x hx => by
      unfold spL at hx
      obtain ⟨k, _, rfl⟩ := List.mem_map.mp hx
      rfl
    generalize spL (stn W b.a0 b.g0) (stn W b.a1 b.g1) = lw at *
    have hq : cmpD .eq (.tup [.str "same", .lst lw]) (.tup [.str "same", .lst lw]) = some true := k_same (by simp only [sk_tup, List.all_cons, sk_lst, List.all_nil, Bool.and_true]; rw [hs]; decide +kernel)
    have nq : ¬ (stn W b.a1 b.g1).length = (stn R b.a1 b.g1).length := fun z => s2 ⟨by omega, by omega⟩
    walk_at "go"
  · have ed : spD W b = .tup [.str "unlike", .int ((stn W b.a1 b.g1).length : Nat), .int ((stn W b.a0 b.g0).length : Nat)] := if_neg c
    rw [ed] at e4 e5
    walk_at "go"

end LW
namespace LW
open PySem PySem.Spec PyProof.Rows L2 VS Ru

theorem sortI_pw (l : List Int) : (sortI l).Pairwise (· ≤ ·) := by
  have h := List.pairwise_mergeSort (le := fun a b : Int => decide (a ≤ b)) (fun a b c h1 h2 => by simp only [decide_eq_true_eq] at *; omega) (fun a b => by simp only [Bool.or_eq_true, decide_eq_true_eq]; omega) l
  exact h.imp fun h => of_decide_eq_true h
theorem sortI_mem {l : List Int} {m : Int} : m ∈ sortI l ↔ m ∈ l := (List.mergeSort_perm l _).mem_iff
theorem ln_off (row : List Int) : ∀ k, row.length ≤ k → ln row k = false := fun k h => by simp [ln, h]
theorem lat_more {B E : Int → Bool} {N : Nat} (h : ∀ m : Int, (N : Int) < m → B m = false ∧ E m = false) : ∀ d, La.lat B E (La.upT 0 (N + 1 + d)) = La.lat B E (La.upT 0 (N + 1))
  | 0 => rfl
  | d + 1 => by
    rw [← Nat.add_assoc, La.upT_s]
    unfold La.lat
    rw [List.foldl_append]
    have ih := lat_more h d
    unfold La.lat at ih
    rw [ih]
    obtain ⟨h1, h2⟩ := h (0 + ((N + 1 + d : Nat) : Int)) (by omega)
    simp only [List.foldl_cons, List.foldl_nil]
    exact La.stp_none h1 h2
/-- two mates' notes latch an organ's notes -/
theorem latch_stn {row : List Int} (hl : row.length ≤ 10000) {a g a' g' : Int} (ha : 1 ≤ a') (hg : 1 ≤ g') (h1 : a' ≤ a) (h2 : g' ≤ g) (hm : g ≤ 10000) {bs es : List Int}
    (hb : ∀ m, m ∈ bs ↔ m ∈ (stn row a g').map fun p => p.1) (he : ∀ m, m ∈ es ↔ m ∈ (stn row a' g).map fun p => p.2) :
    (∀ m, ¬ (m ∈ bs ∧ m ∈ es)) ∧ (latM bs es (sortI (bs ++ es))).2 = stn row a g ∧ ∃ N : Nat, N < 1000000 ∧ (∀ m, m ∈ bs ∨ m ∈ es → m ≤ N) ∧ (N = 0 ∨ (N : Int) ∈ bs ∨ (N : Int) ∈ es) ∧ (latM bs es (La.upT 0 (N + 1))).2 = stn row a g := by
  have M := La.mates (r := ln row) (a := a.toNat) (g := g.toNat) (a' := a'.toNat) (g' := g'.toNat) (by omega) (by omega) (by omega) (by omega)
  have eb : (stn row a g').map (fun p => p.1) = La.bgs (Vo.fl (ln row) a.toNat g'.toNat) (row.length + g'.toNat) := by
    unfold stn La.bgs
    rw [List.map_map]
    rfl
  have ee : (stn row a' g).map (fun p => p.2) = La.ens (Vo.fl (ln row) a'.toNat g.toNat) (row.length + g.toNat) := by
    unfold stn La.ens
    rw [List.map_map]
    rfl
  rw [eb] at hb
  rw [ee] at he
  have z1 : ∀ u, row.length + g'.toNat ≤ u → Vo.fl (ln row) a.toNat g'.toNat u = false := fun u hu => Vo.fl_end (by omega) (by omega) (ln_off row) hu
  have z2 : ∀ u, row.length + g.toNat ≤ u → Vo.fl (ln row) a'.toNat g.toNat u = false := fun u hu => Vo.fl_end (by omega) (by omega) (ln_off row) hu
  have z3 : ∀ u, row.length + g.toNat ≤ u → Vo.fl (ln row) a.toNat g.toNat u = false := fun u hu => Vo.fl_end (by omega) (by omega) (ln_off row) hu
  obtain ⟨hd, key⟩ := La.latch_mates M (Vo.fl_0 (by omega)) (Vo.fl_0 (by omega)) (Vo.fl_0 (by omega)) z1 z2 z3 hb he
  refine ⟨hd, ?_⟩
  obtain ⟨x, hx, hx2⟩ := max_ex (l := bs ++ es ++ [0]) (by simp)
  have hx0 : 0 ≤ x := hx2 0 (by simp)
  obtain ⟨N, rfl⟩ := Int.eq_ofNat_of_zero_le hx0
  have up : ∀ m, m ∈ bs ∨ m ∈ es → m ≤ N := fun m h => hx2 m (by simp only [List.mem_append]; exact .inl h)
  have lo : ∀ m, m ∈ bs ∨ m ∈ es → 0 ≤ m ∧ m < 1000000 := fun m h => by
    rcases h with h | h
    · obtain ⟨t, rfl, r⟩ := (La.mem_bgs (Vo.fl_0 (by omega)) z1).mp ((hb m).mp h)
      have := r.2.2
      refine ⟨by omega, ?_⟩
      by_cases c : row.length + g'.toNat ≤ t
      · rw [z1 t c] at this; cases this
      · omega
    · obtain ⟨t, rfl, r⟩ := (La.mem_ens (Vo.fl_0 (by omega)) z2).mp ((he m).mp h)
      have := r.2.1
      refine ⟨by omega, ?_⟩
      by_cases c : row.length + g.toNat ≤ t - 1
      · rw [z2 _ c] at this; cases this
      · omega
  have hN : N = 0 ∨ (N : Int) ∈ bs ∨ (N : Int) ∈ es := by
    simp only [List.mem_append, List.mem_singleton] at hx
    rcases hx with h | h
    · exact .inr h
    · left; omega
  have Nl : N < 1000000 := by
    rcases hN with h | h
    · omega
    · have := lo _ h; omega
  have e1 : (latM bs es (La.upT 0 (N + 1))).2 = stn row a g := by
    have := lat_more (B := fun m => decide (m ∈ bs)) (E := fun m => decide (m ∈ es)) (N := N) (fun m hm => ⟨decide_eq_false fun h => by have := up m (.inl h); omega, decide_eq_false fun h => by have := up m (.inr h); omega⟩) (row.length + g.toNat)
    have k := key (N + (row.length + g.toNat)) (by omega)
    rw [show N + (row.length + g.toNat) + 1 = N + 1 + (row.length + g.toNat) by omega, this] at k
    unfold latM stn
    rw [k]
  refine ⟨?_, N, Nl, up, hN, e1⟩
  rw [← e1]
  unfold latM La.lat
  rw [La.fold_sorted (B := fun m => decide (m ∈ bs)) (E := fun m => decide (m ∈ es)) (fun m h => hd m ⟨of_decide_eq_true h.1, of_decide_eq_true h.2⟩) (N + 1) 0 (sortI (bs ++ es)) (none, []) (sortI_pw _) (fun m h => ?_) (fun m h _ _ => ?_)]
  · have h := List.mem_append.mp (sortI_mem.mp h)
    have := up m h
    have := lo m h
    omega
  · refine sortI_mem.mpr (List.mem_append.mpr ?_)
    rcases h with h | h
    · exact .inl (of_decide_eq_true h)
    · exact .inr (of_decide_eq_true h)
/-- what is heard of a row on all organs -/
def hearL (row : List Int) (b : Bx) : List (List Key × D) := (boxO b).map fun q => (([.inl q.1, .inl q.2] : List Key), D.lst ((stn row q.1 q.2).map VS.prD))
theorem lk_map {v : Int × Int → D} : ∀ {l : List (Int × Int)} {p : Int × Int}, p ∈ l → lkK (l.map fun q => (([.inl q.1, .inl q.2] : List Key), v q)) [.inl p.1, .inl p.2] = some (v p)
  | a :: r, p, h => by
    rw [List.map_cons]
    unfold lkK
    by_cases c : a = p
    · subst c; simp
    · have : ¬ (([.inl a.1, .inl a.2] : List Key) = [.inl p.1, .inl p.2]) := fun z => c (by
        simp at z
        exact Prod.ext z.1 z.2)
      rw [if_neg this]
      rcases List.mem_cons.mp h with rfl | h
      · exact absurd rfl c
      · exact lk_map h
theorem r35 (n : Nat) (b : Bx) (hb : b.Ok) (c : List (Int × Int)) (hc : ∀ p, p ∈ c → p ∈ boxO b) (hcl : c.length ≤ 100) (h1 : (c.filter fun p => decide (p.1 = b.a1)) ≠ []) (h2 : (c.filter fun p => decide (p.2 = b.g1)) ≠ []) (row : List Int) (hl : row.length ≤ 10000) :
    VS.run P F (n+2) 35 [(bxD b, .dp), (.lst (c.map VS.prD), .fz), (.dT (hearL row b), .fz), (.lst ((stn row b.a1 b.g1).map VS.prD), .fz)] = .ok (.bl true, .dp) [] := by
  rw [un35]
  obtain ⟨x, r1, e1⟩ := List.exists_cons_of_ne_nil h1
  obtain ⟨y, r2, e2⟩ := List.exists_cons_of_ne_nil h2
  have mx : x ∈ c.filter fun p => decide (p.1 = b.a1) := by rw [e1]; exact .head _
  have my : y ∈ c.filter fun p => decide (p.2 = b.g1) := by rw [e2]; exact .head _
  obtain ⟨mx, ex⟩ := List.mem_filter.mp mx
  obtain ⟨my, ey⟩ := List.mem_filter.mp my
  have ex : x.1 = b.a1 := of_decide_eq_true ex
  have ey : y.2 = b.g1 := of_decide_eq_true ey
  have bx := hc x mx
  have by' := hc y my
  have lx : lkK (hearL row b) [.inl x.1, .inl x.2] = some (D.lst ((stn row x.1 x.2).map VS.prD)) := lk_map bx
  have ly : lkK (hearL row b) [.inl y.1, .inl y.2] = some (D.lst ((stn row y.1 y.2).map VS.prD)) := lk_map by'
  have hx := mem_boxO.mp bx
  have hy := mem_boxO.mp by'
  obtain ⟨b1, b2, b3, b4, b5, b6⟩ := hb
  rw [ex] at lx
  rw [ey] at ly
  obtain ⟨f1, f2, N, f3, f4, f5, f6⟩ := latch_stn hl (a := b.a1) (g := b.g1) (a' := y.1) (g' := x.2) (by omega) (by omega) (by omega) (by omega) (by omega) (bs := (stn row b.a1 x.2).map fun p => p.1) (es := (stn row y.1 b.g1).map fun p => p.2) (fun _ => Iff.rfl) (fun _ => Iff.rfl)
  have l1 := stn_len row b.a1 x.2
  have l2 := stn_len row y.1 b.g1
  have g1 := r14 (n) _ _ (by simp; omega) f1
  have g2 := r23 (n) ((stn row b.a1 x.2).map fun p => p.1) ((stn row y.1 b.g1).map fun p => p.2) (by simp; omega) N f3 f4 f5
  rw [f2] at g1
  rw [f6] at g2
  have g3 : cmpD .eq (.lst ((stn row b.a1 b.g1).map VS.prD)) (.lst ((stn row b.a1 b.g1).map VS.prD)) = some true := k_same (by simp only [sk_lst, sk_prs])
  clear f1 f2 f3 f4 f5 f6 h1 h2 mx my hc bx by'
  dsimp only [f35, bxD]
  walk_at "go"

end LW
namespace LW
open PySem PySem.Spec PyProof.Rows L2 VS Ru

/-- what the rows of the sets that lack something are kept under -/
def wrdK (b : Bx) (ws : List Nat) : List (Key × D) := ws.map fun w => (.inr (wordW w), .tup [.lst ((rowR b w).map .int), .lst ((rowW b w).map .int)])
theorem wordW_inj {i j : Nat} (hi : i < 3) (hj : j < 3) (h : wordW i = wordW j) : i = j := by
  have : i = 0 ∨ i = 1 ∨ i = 2 := by omega
  have : j = 0 ∨ j = 1 ∨ j = 2 := by omega
  rcases ‹i = 0 ∨ i = 1 ∨ i = 2› with rfl | rfl | rfl <;> rcases ‹j = 0 ∨ j = 1 ∨ j = 2› with rfl | rfl | rfl <;> first | rfl | (exfalso; revert h; decide +kernel)
theorem wrd_mem (b : Bx) : ∀ {ws : List Nat} {w : Nat}, w ∈ ws → (∀ x, x ∈ ws → x < 3) → lkK (wrdK b ws) (.inr (wordW w)) = some (.tup [.lst ((rowR b w).map .int), .lst ((rowW b w).map .int)])
  | a :: r, w, h, hw => by
    unfold wrdK
    rw [List.map_cons]
    unfold lkK
    by_cases c : a = w
    · subst c; simp
    · have : ¬ ((.inr (wordW a) : Key) = .inr (wordW w)) := fun z => c (wordW_inj (hw a (.head _)) (hw w h) (by simpa using z))
      rw [if_neg this]
      rcases List.mem_cons.mp h with rfl | h
      · exact absurd rfl c
      · exact wrd_mem b h fun x hx => hw x (.tail _ hx)
theorem wrd_none (b : Bx) : ∀ {ws : List Nat} {w : Nat}, w ∉ ws → w < 3 → (∀ x, x ∈ ws → x < 3) → lkK (wrdK b ws) (.inr (wordW w)) = none
  | [], _, _, _, _ => rfl
  | a :: r, w, h, h3, hw => by
    unfold wrdK
    rw [List.map_cons]
    unfold lkK
    have : ¬ ((.inr (wordW a) : Key) = .inr (wordW w)) := fun z => h (by
      rw [wordW_inj (hw a (.head _)) h3 (by simpa using z)]
      exact .head _)
    rw [if_neg this]
    exact wrd_none b (fun z => h (.tail _ z)) h3 fun x hx => hw x (.tail _ hx)
theorem wrd_put (b : Bx) {ws : List Nat} {w : Nat} (h : w ∉ ws) (h3 : w < 3) (hw : ∀ x, x ∈ ws → x < 3) : putKD (wrdK b ws) (.inr (wordW w)) (.tup [.lst ((rowR b w).map .int), .lst ((rowW b w).map .int)]) = wrdK b (ws ++ [w]) := by
  have : ((wrdK b ws).any fun kv => decide (kv.1 = (.inr (wordW w) : Key))) = false := by
    rw [List.any_eq_false]
    intro kv hkv
    obtain ⟨x, hx, rfl⟩ := List.mem_map.mp hkv
    simp only [decide_eq_true_eq]
    intro z
    exact h (by rw [← wordW_inj (hw x hx) h3 (by simpa using z)]; exact hx)
  unfold putKD
  rw [this]
  simp [wrdK]
theorem wrd_len (b : Bx) (ws : List Nat) : (wrdK b ws).length = ws.length := by simp [wrdK]
theorem lackN_lt {b : Bx} {c : List (Int × Int)} : lackN b c ≤ 3 := by
  unfold lackN
  split
  · omega
  · split
    · omega
    · split <;> omega
theorem lackN_perm {b : Bx} {c d : List (Int × Int)} (h : c.Perm d) : lackN b c = lackN b d := by
  unfold lackN
  have e1 : ((b.a0, b.g0) ∉ c) = ((b.a0, b.g0) ∉ d) := by rw [h.mem_iff]
  have key : ∀ q : Int × Int → Bool, (c.filter q = []) = (d.filter q = []) := fun q => by
    apply propext
    rw [List.filter_eq_nil_iff, List.filter_eq_nil_iff]
    exact ⟨fun z p hp => z p (h.mem_iff.mpr hp), fun z p hp => z p (h.mem_iff.mp hp)⟩
  simp only [e1, key]
/-- of which sets each word comes -/
structure Three (b : Bx) (K : Nat) : Prop where
  n0 : lackN b (setOf (boxO b) 0) = 0
  n1 : lackN b (setOf (boxO b) 1) = 1
  n2 : ∃ k, k < K ∧ lackN b (setOf (boxO b) k) = 2
  two : 2 ≤ K
  l6 : (boxO b).length ≤ 16
  lK : K = if (boxO b).length = 4 then 16 else 64
  aw : b.a0 < b.a1
  gw : b.g0 < b.g1
theorem sort3 {ws : List Nat} (h : ws.Nodup) (h3 : ∀ x, x ∈ ws → x < 3) (m0 : 0 ∈ ws) (m1 : 1 ∈ ws) (m2 : 2 ∈ ws) : biD .sorted [.lst (ws.map fun w => D.str (wordW w))] = some (.lst [.str "begin", .str "end", .str "quick"], .dp) := by
  have hp : ws.Perm [1, 2, 0] := by
    refine (List.perm_ext_iff_of_nodup h (by decide)).mpr fun x => ?_
    constructor
    · intro hx
      have := h3 x hx
      simp; omega
    · intro hx
      simp at hx
      rcases hx with rfl | rfl | rfl <;> assumption
  have e : ∀ l : List Nat, l ≠ [] → biD .sorted [.lst (l.map fun w => D.str (wordW w))] = if l.length < 64 then some (.lst ((sortS (l.map wordW)).map .str), .dp) else none := fun l hl => by
    have e1 : intsD (l.map fun w => D.str (wordW w)) = none := by
      cases l with
      | nil => exact absurd rfl hl
      | cons a r => rfl
    have e2 : prsD (l.map fun w => D.str (wordW w)) = none := by
      cases l with
      | nil => exact absurd rfl hl
      | cons a r => rfl
    have e3 : ∀ l : List Nat, strsD (l.map fun w => D.str (wordW w)) = some (l.map wordW) := fun l => by
      induction l with
      | nil => rfl
      | cons a r ih => simp [strsD, ih]
    simp only [biD, sortedD, e1, e2, e3, Option.bind_some, List.length_map]
  rw [e ws (by intro z; rw [z] at m0; cases m0), hp.length_eq]
  have := sortS_uniq (l := ws.map wordW) (m := ["begin", "end", "quick"]) ((hp.map wordW).symm) (by decide +kernel)
  rw [← this]
  rfl

end LW
namespace LW
open PySem PySem.Spec PyProof.Rows L2 VS Ru

def hearP (row : List Int) (l : List (Int × Int)) : List (List Key × D) := l.map fun q => (([.inl q.1, .inl q.2] : List Key), D.lst ((stn row q.1 q.2).map VS.prD))
theorem put_map {v : Int × Int → D} {l : List (Int × Int)} {p : Int × Int} (h : p ∉ l) : putKD (l.map fun q => (([.inl q.1, .inl q.2] : List Key), v q)) [.inl p.1, .inl p.2] (v p) = (l ++ [p]).map fun q => (([.inl q.1, .inl q.2] : List Key), v q) := by
  have : ((l.map fun q => (([.inl q.1, .inl q.2] : List Key), v q)).any fun kv => decide (kv.1 = ([.inl p.1, .inl p.2] : List Key))) = false := by
    rw [List.any_eq_false]
    intro kv hkv
    obtain ⟨q, hq, rfl⟩ := List.mem_map.mp hkv
    simp only [decide_eq_true_eq]
    intro z
    simp at z
    exact h (by rw [← show q = p from Prod.ext z.1 z.2]; exact hq)
  unfold putKD
  rw [this]
  simp
theorem immK_hear {row : List Int} {l : List (Int × Int)} {p : Int × Int} : immK (hearP row (l ++ [p])) = false := by
  induction l with
  | nil => simp [hearP, immK, imm]
  | cons a r ih => simp [hearP, immK, imm]
def rowsD (rows : List (List Int)) : List D := rows.map fun r => D.lst (r.map .int)
def hearD (b : Bx) (r : List Int) : D := .dT (hearL r b)
structure RowOk (r : List Int) : Prop where
  b : Bin r
  l : 0 < r.length ∧ r.length ≤ 400
set_option maxHeartbeats 4000000 in
theorem r36 (n : Nat) (p : Pu) (b : Bx) (hb : b.Ok) (K : Nat) (h3 : Three b K) (rows : List (List Int)) (hr : ∀ r, r ∈ rows → RowOk r) (hrl : rows.length ≤ 100) :
    ∃ p', VS.run P F (n+7) 36 [(PU p, .dp), (bxD b, .dp), (.lst (rowsD rows), .fz)] = .ok (.bl true, .dp) [(0, (PU p', .dp))] := by
  rw [un36]
  have ip := imm_PU
  have ib := imm_bx b
  have ibo := imm_BxO b
  have bl := boxO_len hb
  have e0 := r25 (n+2) b hb
  have e1 := r24 (n+5) b hb
  dsimp only [f36]
  walk_at "go"
  refine forGo_wp (Q := fun o => ∃ p', endF _ (sqT o _ _) = .ok (.bl true, .dp) [(0, (PU p', .dp))]) (fun k ρ => ∃ (mo mt : Md) (x y z : Option (D × Md)), ρ = [some (PU p, .dp), some (bxD b, .dp), some (.lst (rowsD rows), .fz), some (BxO b, .dp), some (.lst ((boxO b).map VS.prD), mo), some (.lst ((rows.take k).map (hearD b)), mt), x, none, none, y, z, none, none, none] ∧ (mt = .dp ∨ mt = .rt)) ?_ ⟨_, _, none, none, none, rfl, .inl rfl⟩ ?_
  · rintro k d ρ hk ⟨mo, mt, x, y, z, rfl, hmt⟩
    unfold rowsD at hk
    rw [List.getElem?_map] at hk
    obtain ⟨r, hrk, rfl⟩ := Option.map_eq_some_iff.mp hk
    obtain ⟨hj, _⟩ := List.getElem?_eq_some_iff.mp hrk
    have hro := hr r (List.mem_of_getElem? hrk)
    have et : rows.take (k + 1) = rows.take k ++ [r] := by rw [List.take_add_one, hrk]; rfl
    walk_at "go"
    refine forGo_wp (Q := fun o => turn _ _ (sqT o _ _)) (fun j ρ => ∃ (mh : Md) (z : Option (D × Md)), ρ = [some (PU p, .dp), some (bxD b, .dp), some (.lst (rowsD rows), .fz), some (BxO b, .dp), some (.lst ((boxO b).map VS.prD), .fz), some (.lst ((rows.take k).map (hearD b)), mt), some (.lst (r.map .int), .fz), none, none, some (.dT (hearP r ((boxO b).take j)), mh), z, none, none, none] ∧ (mh = .dp ∨ mh = .rt)) ?_ ⟨_, z, rfl, .inl rfl⟩ ?_
    · rintro j d ρ hj2 ⟨mh, z, rfl, hmh⟩
      rw [List.getElem?_map] at hj2
      obtain ⟨q, hq, rfl⟩ := Option.map_eq_some_iff.mp hj2
      have mq := mem_boxO.mp (List.mem_of_getElem? hq)
      obtain ⟨hjl, hjq⟩ := List.getElem?_eq_some_iff.mp hq
      have et2 : (boxO b).take (j + 1) = (boxO b).take j ++ [q] := by rw [List.take_add_one, hq]; rfl
      have hnq : q ∉ (boxO b).take j := by
        have nd := boxO_nd b
        rw [← List.take_append_drop j (boxO b), List.nodup_append] at nd
        intro z
        refine nd.2.2 q z q ?_ rfl
        rw [List.drop_eq_getElem_cons hjl, hjq]
        exact .head _
      have hl0 : (hearP r ((boxO b).take j)).length ≤ 16777215 := by
        simp only [hearP, List.length_map, List.length_take]
        omega
      obtain ⟨b1, b2, b3, b4, b5, b6⟩ := hb
      have s1 := r12 (n+2) r q.1 q.2 hro.b hro.l (by omega) (by omega)
      have s2 := r21 (n+3) r q.1 q.2 (by have := hro.l; omega) (by omega) (by omega)
      have s3 : putKD (hearP r ((boxO b).take j)) [.inl q.1, .inl q.2] (D.lst ((stn r q.1 q.2).map VS.prD)) = hearP r ((boxO b).take j ++ [q]) := put_map (v := fun q => D.lst ((stn r q.1 q.2).map VS.prD)) hnq
      have s4 : lkK (hearP r ((boxO b).take j ++ [q])) [.inl q.1, .inl q.2] = some (D.lst ((stn r q.1 q.2).map VS.prD)) := lk_map (v := fun q => D.lst ((stn r q.1 q.2).map VS.prD)) (by simp)
      have s5 := @immK_hear r ((boxO b).take j) q
      rw [et2]
      clear hnq hj2 hq et2 hk hrk
      generalize (boxO b).take j = tl at *
      rcases hmh with rfl | rfl
      · walk_at "go"
        exact ⟨_, _, rfl, .inr rfl⟩
      · walk_at "go"
        exact ⟨_, _, rfl, .inr rfl⟩
    · rintro ρ ⟨mh, z, rfl, hmh⟩
      have ea : (boxO b).take (boxO b).length = boxO b := List.take_length
      have eh : D.dT (hearP r (boxO b)) = hearD b r := rfl
      have ih : imm (hearD b r) = false := by simp [hearD, imm]
      rw [show ((boxO b).map VS.prD).length = (boxO b).length by simp, ea, eh]
      have hl2 : (rows.take k).length ≤ 100 := by simp; omega
      clear hk hrk et ea
      rcases hmt with rfl | rfl
      · walk_at "go"
        exact ⟨_, _, _, _, _, rfl, .inr rfl⟩
      · walk_at "go"
        exact ⟨_, _, _, _, _, rfl, .inr rfl⟩
  · rintro ρ ⟨mo, mt, x, y, z, rfl, hmt⟩
    rw [show (rowsD rows).length = rows.length by simp [rowsD], List.take_length]
    have eK : (if ((boxO b).length : Int) = 4 then (16 : Int) else 64).toNat = K := by
      rw [h3.lK]
      by_cases c : (boxO b).length = 4
      · rw [if_pos (by omega), if_pos c]; rfl
      · rw [if_neg (by omega), if_neg c]; rfl
    have K64 : K ≤ 64 := by rw [h3.lK]; split <;> omega
    walk_at "go"
    refine forRange_wp (Q := fun o => ∃ p', endF _ (sqT o _ _) = .ok (.bl true, .dp) [(0, (PU p', .dp))]) (fun k ρ => ∃ (p' : Pu) (mo mt mw : Md) (ws : List Nat) (x1 x2 x3 x4 x5 x6 x7 : Option (D × Md)), ρ = [some (PU p', .dp), some (bxD b, .dp), some (.lst (rowsD rows), .fz), some (BxO b, .dp), some (.lst ((boxO b).map VS.prD), mo), some (.lst (rows.map (hearD b)), mt), x1, some (.dK (wrdK b ws), mw), x2, x3, x4, x5, x6, x7] ∧ (mw = .dp ∨ mw = .rt) ∧ ws.length ≤ k ∧ ws.Nodup ∧ (∀ w, w ∈ ws → w < 3) ∧ (∀ j w, j < k → lackN b (setOf (boxO b) j) = w → w < 3 → w ∈ ws)) ?_ ⟨p, mo, mt, .dp, [], x, none, y, z, none, none, none, rfl, .inl rfl, Nat.le_refl _, .nil, fun w h => (by cases h), fun j w h => (by omega)⟩ ?_
    · rintro k ρ hk ⟨p', mo, mt, mw, ws, x1, x2, x3, x4, x5, x6, x7, rfl, hmw, wl, hnd, hw3, hall⟩
      have l6 := h3.l6
      have e2 := r34 (n+5) (boxO b) k (by omega)
      have sl := setOf_len (boxO b) k
      obtain ⟨c, p2, e3, hc⟩ := r17 imm_prp (n+4) p' (setOf (boxO b) k) (by omega)
      have hcl := hc.length_eq
      have hcb : ∀ q, q ∈ c → q ∈ boxO b := fun q hq => setOf_sub (hc.mem_iff.mp hq)
      have e4 := r8 (n+2) b hb c (by omega) hcb
      have e5 := r31 (n+5) b c (by omega)
      obtain ⟨w, hw⟩ : ∃ w, lackN b c = w := ⟨_, rfl⟩
      have hwk : lackN b (setOf (boxO b) k) = w := by rw [← hw]; exact (lackN_perm hc).symm
      have hw4 : w ≤ 3 := by rw [← hw]; exact lackN_lt
      rw [hw] at e4 e5
      by_cases c3 : w = 3
      · subst c3
        have f1 : foeD b 3 = .tup [.str "enough"] := rfl
        have f2 : wordW 3 = "" := rfl
        rw [f1] at e4
        rw [f2] at e5
        have hfin : (∀ j w, j < k + 1 → lackN b (setOf (boxO b) j) = w → w < 3 → w ∈ ws) := fun j w' hj he h3' => by
          by_cases c : j = k
          · subst c
            omega
          · exact hall j w' (by omega) he h3'
        have q1 : (c.filter fun p => decide (p.1 = b.a1)) ≠ [] := fun z => by
          by_cases d1 : (b.a0, b.g0) ∈ c <;> simp [lackN, d1, z] at hw
        have q2 : (c.filter fun p => decide (p.2 = b.g1)) ≠ [] := fun z => by
          by_cases d1 : (b.a0, b.g0) ∈ c
          · by_cases d2 : (c.filter fun p => decide (p.1 = b.a1)) = [] <;> simp [lackN, d1, d2, z] at hw
          · simp [lackN, d1] at hw
        have sk := fun r (hr' : r ∈ rows) => r35 (n+4) b hb c hcb (by omega) q1 q2 r (by have := (hr r hr').l; omega)
        clear hall hc hcb hw hwk h3 q1 q2
        walk_at "go"
        refine forGo_wp (Q := fun o => turn _ _ (sqT (sqT o _ _) _ _)) (fun i ρ => ∃ (x3 : Option (D × Md)), ρ = [some (PU p2, .dp), some (bxD b, .dp), some (.lst (rowsD rows), .fz), some (BxO b, .dp), some (.lst ((boxO b).map VS.prD), mo), some (.lst (rows.map (hearD b)), .fz), x1, some (.dK (wrdK b ws), mw), some (.int k, .dp), x3, x4, some (.lst (c.map VS.prD), .dp), some (.tup [.str "enough"], .dp), some (.str "", .dp)]) ?_ ⟨_, rfl⟩ ?_
        · rintro i d ρ hi ⟨x3, rfl⟩
          obtain ⟨r, hr2, rfl⟩ := List.mem_map.mp (List.mem_of_getElem? hi)
          have sk' := sk r hr2
          have lk := lk_map (v := fun q => D.lst ((stn r q.1 q.2).map VS.prD)) (slowM hb)
          have ih : imm (hearD b r) = false := by simp [hearD, imm]
          have eh : hearD b r = .dT (hearL r b) := rfl
          have lk : lkK (hearL r b) [.inl b.a1, .inl b.g1] = some (D.lst ((stn r b.a1 b.g1).map VS.prD)) := lk
          clear sk hi
          dsimp only [bxD] at sk' ⊢
          walk_at "go"
          exact ⟨_, rfl⟩
        · rintro ρ ⟨x3, rfl⟩
          walk_at "go"
          exact ⟨_, _, _, _, ws, _, _, _, _, _, _, _, rfl, hmw, by omega, hnd, hw3, hfin⟩
      · have c3 : w < 3 := by omega
        have f1 : foeD b w = .tup [.str "fooled", .str (wordW w), .lst ((rowR b w).map .int), .lst ((rowW b w).map .int)] := by
          unfold foeD
          rw [if_neg (by omega)]
        rw [f1] at e4
        have f2 : ¬ wordW w = ("" : Str) := by
          have : w = 0 ∨ w = 1 ∨ w = 2 := by omega
          rcases this with rfl | rfl | rfl <;> decide +kernel
        have f3 : PyData.strOk (wordW w) = true := by
          have : w = 0 ∨ w = 1 ∨ w = 2 := by omega
          rcases this with rfl | rfl | rfl <;> decide +kernel
        have f4 := wrd_len b ws
        have f5 : cmpD .eq (.str (wordW w)) (.str "") = some false := by
          rw [c_eq (by show PyData.strOk _ = true; exact f3) (by decide +kernel), eq_ss, decide_eq_false f2]
        have f6 : cmpD .ne (.str (wordW w)) (.str (wordW w)) = some false := k_nsame (by show PyData.strOk _ = true; exact f3)
        by_cases cw : w ∈ ws
        · have g1 := wrd_mem b cw hw3
          have fin : ∀ (X : List (Option (D × Md))) (mw' : Md), True := fun _ _ => trivial
          have hfin : (∀ j w, j < k + 1 → lackN b (setOf (boxO b) j) = w → w < 3 → w ∈ ws) := fun j w' hj he h3' => by
            by_cases c : j = k
            · subst c
              rw [← he, hwk]
              exact cw
            · exact hall j w' (by omega) he h3'
          have f7 : cmpD .ne (.tup [.lst ((rowR b w).map .int), .lst ((rowW b w).map .int)]) (.tup [.lst ((rowR b w).map .int), .lst ((rowW b w).map .int)]) = some false := k_nsame (by simp only [sk_tup, List.all_cons, sk_lst, sk_ints, List.all_nil, Bool.and_true])
          have ikw : immK (wrdK b ws) = false := by
            cases ws with
            | nil => cases cw
            | cons a r => simp [wrdK, immK, imm, immL]
          clear hall hc hcb hw hwk h3 hr
          rcases hmw with rfl | rfl
          · walk_at "go"
            exact ⟨_, _, _, _, ws, _, _, _, _, _, _, _, rfl, .inr rfl, by omega, hnd, hw3, hfin⟩
          · walk_at "go"
            exact ⟨_, _, _, _, ws, _, _, _, _, _, _, _, rfl, .inr rfl, by omega, hnd, hw3, hfin⟩
        · have g1 := wrd_none b cw c3 hw3
          have g2 := wrd_put b cw c3 hw3
          have g3 := r33 n b hb w c3 (fun _ => h3.aw) (fun _ => h3.gw)
          have hfin : (∀ j w', j < k + 1 → lackN b (setOf (boxO b) j) = w' → w' < 3 → w' ∈ ws ++ [w]) := fun j w' hj he h3' => by
            by_cases c : j = k
            · subst c
              rw [← he, hwk]
              simp
            · exact List.mem_append_left _ (hall j w' (by omega) he h3')
          have hnd2 : (ws ++ [w]).Nodup := List.nodup_append.mpr ⟨hnd, by simp, fun a ha b hb => by
            rw [List.mem_singleton.mp hb]
            intro z
            exact cw (z ▸ ha)⟩
          have hw32 : ∀ x, x ∈ ws ++ [w] → x < 3 := fun x hx => by
            rcases List.mem_append.mp hx with h | h
            · exact hw3 x h
            · rw [List.mem_singleton.mp h]; exact c3
          have hl2 : (ws ++ [w]).length ≤ k + 1 := by simp; omega
          clear hall hnd hw3 hc hcb hw hwk h3 hr
          rcases hmw with rfl | rfl
          · walk_at "go"
            exact ⟨_, _, _, _, ws ++ [w], _, _, _, _, _, _, _, rfl, .inr rfl, hl2, hnd2, hw32, hfin⟩
          · walk_at "go"
            exact ⟨_, _, _, _, ws ++ [w], _, _, _, _, _, _, _, rfl, .inr rfl, hl2, hnd2, hw32, hfin⟩
    · rintro ρ ⟨p', mo, mt, mw, ws, x1, x2, x3, x4, x5, x6, x7, rfl, hmw, wl, hnd, hw3, hall⟩
      have m0 := hall 0 0 (by have := h3.two; omega) h3.n0 (by omega)
      have m1 := hall 1 1 (by have := h3.two; omega) h3.n1 (by omega)
      obtain ⟨j, hj, hj2⟩ := h3.n2
      have m2 := hall j 2 hj hj2 (by omega)
      have es := sort3 hnd hw3 m0 m1 m2
      have ek : (wrdK b ws).map (fun p => keyD p.1) = ws.map fun w => D.str (wordW w) := by simp [wrdK, keyD]
      have eq : cmpD .eq (.lst [.str "begin", .str "end", .str "quick"]) (.lst [.str "begin", .str "end", .str "quick"]) = some true := k_same (by decide +kernel)
      clear hall h3 hr
      rcases hmw with rfl | rfl
      · walk_at "go"
        exact ⟨p', by split <;> rfl⟩
      · walk_at "go"
        exact ⟨_, rfl⟩

end LW
namespace LW
open PySem PySem.Spec PyProof.Rows L2 VS Ru

def kinB (a g : Int) (k : Nat) : Bx := if k = 0 then ⟨a, a + 1, g, g + 1⟩ else if k = 1 then ⟨a, a + 2, g, g + 1⟩ else ⟨a, a + 1, g, g + 2⟩
def kinK (k : Nat) : Nat := if k = 0 then 16 else 64
def kinJ (k : Nat) : Nat := if k = 0 then 5 else if k = 1 then 17 else 9
theorem three_dec : ∀ a : Nat, a < 5 → ∀ g : Nat, g < 5 → ∀ k : Nat, k < 3 → (lackN (kinB (2 + a) (2 + g) k) (setOf (boxO (kinB (2 + a) (2 + g) k)) 0) = 0 ∧ lackN (kinB (2 + a) (2 + g) k) (setOf (boxO (kinB (2 + a) (2 + g) k)) 1) = 1 ∧ lackN (kinB (2 + a) (2 + g) k) (setOf (boxO (kinB (2 + a) (2 + g) k)) (kinJ k)) = 2 ∧ kinJ k < kinK k ∧ (boxO (kinB (2 + a) (2 + g) k)).length ≤ 16 ∧ kinK k = if (boxO (kinB (2 + a) (2 + g) k)).length = 4 then 16 else 64) := by decide +kernel
theorem three_kin {a g k : Nat} (ha : a < 5) (hg : g < 5) (hk : k < 3) : Three (kinB (2 + a) (2 + g) k) (kinK k) := by
  obtain ⟨h1, h2, h3, h4, h5, h6⟩ := three_dec a ha g hg k hk
  refine ⟨h1, h2, ⟨_, h4, h3⟩, ?_, h5, h6, ?_, ?_⟩
  · unfold kinK; split <;> omega
  · unfold kinB; split
    · dsimp only; omega
    · split <;> (dsimp only; omega)
  · unfold kinB; split
    · dsimp only; omega
    · split <;> (dsimp only; omega)
theorem kin_ok {a g k : Nat} (ha : a < 5) (hg : g < 5) : (kinB (2 + a) (2 + g) k).Ok ∧ (kinB (2 + a) (2 + g) k).a1 ≤ 8 ∧ (kinB (2 + a) (2 + g) k).g1 ≤ 8 := by
  unfold kinB
  split
  · exact ⟨⟨by dsimp only; omega, by dsimp only; omega, by dsimp only; omega, by dsimp only; omega, by dsimp only; omega, by dsimp only; omega⟩, by dsimp only; omega, by dsimp only; omega⟩
  · split
    · exact ⟨⟨by dsimp only; omega, by dsimp only; omega, by dsimp only; omega, by dsimp only; omega, by dsimp only; omega, by dsimp only; omega⟩, by dsimp only; omega, by dsimp only; omega⟩
    · exact ⟨⟨by dsimp only; omega, by dsimp only; omega, by dsimp only; omega, by dsimp only; omega, by dsimp only; omega, by dsimp only; omega⟩, by dsimp only; omega, by dsimp only; omega⟩
theorem rlaw (n : Nat) (ns : List Int) (hs : ns.length ≤ 63) : VS.run P F (n+8) 37 [(.lst (ns.map .int), .fz)] = .ok (.bl true, .dp) [] := by
  rw [un37]
  have ip := imm_PU
  have f0 := r15 (n+6) ns 0 (by omega)
  rw [show ((0 : Nat) : Int) = 0 from rfl] at f0
  generalize pursev ns 0 = p0 at f0
  obtain ⟨a, ha⟩ : ∃ a, (dv p0 5).val = a := ⟨_, rfl⟩
  have a5 : a < 5 := by have := (dv p0 5).isLt; omega
  obtain ⟨g, hg⟩ : ∃ g, (dv (dn p0 5) 5).val = g := ⟨_, rfl⟩
  have g5 : g < 5 := by have := (dv (dn p0 5) 5).isLt; omega
  obtain ⟨k, hk⟩ : ∃ k, (dv (dn (dn p0 5) 5) 3).val = k := ⟨_, rfl⟩
  have k3 : k < 3 := by have := (dv (dn (dn p0 5) 5) 3).isLt; omega
  obtain ⟨hb, ba, bg⟩ := kin_ok (k := k) a5 g5
  have h3 := three_kin a5 g5 k3
  obtain ⟨b, hbb⟩ : ∃ b, kinB (2 + a) (2 + g) k = b := ⟨_, rfl⟩
  rw [hbb] at hb ba bg h3
  obtain ⟨p1, hp1⟩ : ∃ p1, dn (dn (dn p0 5) 5) 3 = p1 := ⟨_, rfl⟩
  obtain ⟨row, p2, e1, b1, l1, l1'⟩ := r29 (n+4) (dn p1 4) _ hb 8 ⟨by omega, by omega⟩ (by omega) (dv p1 4).val (by have := (dv p1 4).isLt; omega)
  have lr : (dv p1 4).val * (12 * 8 + 2) ≤ 3 * (12 * 8 + 2) := Nat.mul_le_mul_right _ (by have := (dv p1 4).isLt; omega)
  obtain ⟨more, mm, p3, e2, hmm, b2, l2, l2'⟩ := r30 (n+5) p2 _ hb 8 ⟨by omega, by omega⟩ row b1 (by omega)
  have dr := q16 (n+6)
  obtain ⟨free, p4, e3, b3, l3, l3'⟩ := r26 (n+5) (dn p3 9) (1 + (dv p3 9).val) (max (max (max b.a0 b.a1) b.g0) b.g1 + 2) ⟨by omega, by omega⟩ (by have := hb.a; have := hb.aa; have := hb.g; have := hb.gg; omega)
  have l4 : (1 + ((dv p3 9).val : Int)) * (max (max (max b.a0 b.a1) b.g0) b.g1 + 2) ≤ 9 * 10 := Int.mul_le_mul (by omega) (by have := hb.aa; have := hb.gg; omega) (by have := hb.a; omega) (by omega)
  obtain ⟨p5, e4⟩ := r36 (n) p4 b hb (kinK k) h3 [row, more, free] (fun r hr => by
    simp at hr
    rcases hr with rfl | rfl | rfl
    · exact ⟨b1, by omega, by omega⟩
    · exact ⟨b2, by omega, by omega⟩
    · exact ⟨b3, by omega, by omega⟩) (by simp)
  have er : rowsD [row, more, free] = [.lst (row.map .int), .lst (more.map .int), .lst (free.map .int)] := rfl
  rw [er] at e4
  clear h3 b1 b2 b3 l1 l1' l2 l2' l3 l3' l4 lr er
  dsimp only [f37]
  have kk : k = 0 ∨ k = 1 ∨ k = 2 := by omega
  rcases kk with rfl | rfl | rfl
  · have eb : b = ⟨2 + a, 2 + a + 1, 2 + g, 2 + g + 1⟩ := hbb.symm
    clear hbb
    subst eb
    dsimp only [bxD] at e1 e2 e3 e4
    rcases hmm with rfl | rfl <;> walk_at "go"
  · have eb : b = ⟨2 + a, 2 + a + 2, 2 + g, 2 + g + 1⟩ := hbb.symm
    clear hbb
    subst eb
    dsimp only [bxD] at e1 e2 e3 e4
    rcases hmm with rfl | rfl <;> walk_at "go"
  · have eb : b = ⟨2 + a, 2 + a + 1, 2 + g, 2 + g + 2⟩ := hbb.symm
    clear hbb
    subst eb
    dsimp only [bxD] at e1 e2 e3 e4
    rcases hmm with rfl | rfl <;> walk_at "go"

end LW
namespace LW
theorem law_true : ∀ ns : List Int, ns.length ≤ 63 → VS.run P F 14 37 [(.lst (ns.map .int), .fz)] = .ok (.bl true, .dp) [] := fun ns hs => rlaw 6 ns hs
end LW

set_option Elab.async false
set_option linter.all false
set_option maxRecDepth 100000
set_option maxHeartbeats 0
namespace LW
open PySem PySem.Spec PyProof.Rows L2 VS
theorem all_mk {prog : Program} {w : World} {K : PySem.W.Frag} {h : Heap} {mg : Str → Option Value} {fa : Addr} (X : K.In h) (G : h.Ns mainGlobals mg) (hfa : mg "law" = some (.ref fa))
    {a0 : Addr} {od0 an0 : Option Addr} {sl0 : Array (Option Value)} {oc0 kV0 dc0 pm0 cd0 ct0 : Value}
    {a1 : Addr} {od1 an1 : Option Addr} {sl1 : Array (Option Value)} {oc1 kV1 dc1 pm1 cd1 ct1 : Value}
    {a2 : Addr} {od2 an2 : Option Addr} {sl2 : Array (Option Value)} {oc2 kV2 dc2 pm2 cd2 ct2 : Value}
    {a3 : Addr} {od3 an3 : Option Addr} {sl3 : Array (Option Value)} {oc3 kV3 dc3 pm3 cd3 ct3 : Value}
    {a4 : Addr} {od4 an4 : Option Addr} {sl4 : Array (Option Value)} {oc4 kV4 dc4 pm4 cd4 ct4 : Value}
    {a5 : Addr} {od5 an5 : Option Addr} {sl5 : Array (Option Value)} {oc5 kV5 dc5 pm5 cd5 ct5 : Value}
    {a6 : Addr} {od6 an6 : Option Addr} {sl6 : Array (Option Value)} {oc6 kV6 dc6 pm6 cd6 ct6 : Value}
    {a7 : Addr} {od7 an7 : Option Addr} {sl7 : Array (Option Value)} {oc7 kV7 dc7 pm7 cd7 ct7 : Value}
    {a8 : Addr} {od8 an8 : Option Addr} {sl8 : Array (Option Value)} {oc8 kV8 dc8 pm8 cd8 ct8 : Value}
    {a9 : Addr} {od9 an9 : Option Addr} {sl9 : Array (Option Value)} {oc9 kV9 dc9 pm9 cd9 ct9 : Value}
    {a10 : Addr} {od10 an10 : Option Addr} {sl10 : Array (Option Value)} {oc10 kV10 dc10 pm10 cd10 ct10 : Value}
    {a11 : Addr} {od11 an11 : Option Addr} {sl11 : Array (Option Value)} {oc11 kV11 dc11 pm11 cd11 ct11 : Value}
    {a12 : Addr} {od12 an12 : Option Addr} {sl12 : Array (Option Value)} {oc12 kV12 dc12 pm12 cd12 ct12 : Value}
    {a13 : Addr} {od13 an13 : Option Addr} {sl13 : Array (Option Value)} {oc13 kV13 dc13 pm13 cd13 ct13 : Value}
    {a14 : Addr} {od14 an14 : Option Addr} {sl14 : Array (Option Value)} {oc14 kV14 dc14 pm14 cd14 ct14 : Value}
    {a15 : Addr} {od15 an15 : Option Addr} {sl15 : Array (Option Value)} {oc15 kV15 dc15 pm15 cd15 ct15 : Value}
    {a16 : Addr} {od16 an16 : Option Addr} {sl16 : Array (Option Value)} {oc16 kV16 dc16 pm16 cd16 ct16 : Value}
    {a17 : Addr} {od17 an17 : Option Addr} {sl17 : Array (Option Value)} {oc17 kV17 dc17 pm17 cd17 ct17 : Value}
    {a18 : Addr} {od18 an18 : Option Addr} {sl18 : Array (Option Value)} {oc18 kV18 dc18 pm18 cd18 ct18 : Value}
    {a19 : Addr} {od19 an19 : Option Addr} {sl19 : Array (Option Value)} {oc19 kV19 dc19 pm19 cd19 ct19 : Value}
    {a20 : Addr} {od20 an20 : Option Addr} {sl20 : Array (Option Value)} {oc20 kV20 dc20 pm20 cd20 ct20 : Value}
    {a21 : Addr} {od21 an21 : Option Addr} {sl21 : Array (Option Value)} {oc21 kV21 dc21 pm21 cd21 ct21 : Value}
    {a22 : Addr} {od22 an22 : Option Addr} {sl22 : Array (Option Value)} {oc22 kV22 dc22 pm22 cd22 ct22 : Value}
    {a23 : Addr} {od23 an23 : Option Addr} {sl23 : Array (Option Value)} {oc23 kV23 dc23 pm23 cd23 ct23 : Value}
    {a24 : Addr} {od24 an24 : Option Addr} {sl24 : Array (Option Value)} {oc24 kV24 dc24 pm24 cd24 ct24 : Value}
    {a25 : Addr} {od25 an25 : Option Addr} {sl25 : Array (Option Value)} {oc25 kV25 dc25 pm25 cd25 ct25 : Value}
    {a26 : Addr} {od26 an26 : Option Addr} {sl26 : Array (Option Value)} {oc26 kV26 dc26 pm26 cd26 ct26 : Value}
    {a27 : Addr} {od27 an27 : Option Addr} {sl27 : Array (Option Value)} {oc27 kV27 dc27 pm27 cd27 ct27 : Value}
    {a28 : Addr} {od28 an28 : Option Addr} {sl28 : Array (Option Value)} {oc28 kV28 dc28 pm28 cd28 ct28 : Value}
    {a29 : Addr} {od29 an29 : Option Addr} {sl29 : Array (Option Value)} {oc29 kV29 dc29 pm29 cd29 ct29 : Value}
    {a30 : Addr} {od30 an30 : Option Addr} {sl30 : Array (Option Value)} {oc30 kV30 dc30 pm30 cd30 ct30 : Value}
    {a31 : Addr} {od31 an31 : Option Addr} {sl31 : Array (Option Value)} {oc31 kV31 dc31 pm31 cd31 ct31 : Value}
    {a32 : Addr} {od32 an32 : Option Addr} {sl32 : Array (Option Value)} {oc32 kV32 dc32 pm32 cd32 ct32 : Value}
    {a33 : Addr} {od33 an33 : Option Addr} {sl33 : Array (Option Value)} {oc33 kV33 dc33 pm33 cd33 ct33 : Value}
    {a34 : Addr} {od34 an34 : Option Addr} {sl34 : Array (Option Value)} {oc34 kV34 dc34 pm34 cd34 ct34 : Value}
    {a35 : Addr} {od35 an35 : Option Addr} {sl35 : Array (Option Value)} {oc35 kV35 dc35 pm35 cd35 ct35 : Value}
    {a36 : Addr} {od36 an36 : Option Addr} {sl36 : Array (Option Value)} {oc36 kV36 dc36 pm36 cd36 ct36 : Value}
    {a37 : Addr} {od37 an37 : Option Addr} {sl37 : Array (Option Value)} {oc37 kV37 dc37 pm37 cd37 ct37 : Value}
    {a38 : Addr} {od38 an38 : Option Addr} {sl38 : Array (Option Value)} {oc38 kV38 dc38 pm38 cd38 ct38 : Value}
    {C6 : Addr}
    {a39 : Addr} {od39 an39 : Option Addr} {sl39 : Array (Option Value)} {oc39 kV39 dc39 pm39 cd39 ct39 : Value}
    {a40 : Addr} {od40 an40 : Option Addr} {sl40 : Array (Option Value)} {oc40 kV40 dc40 pm40 cd40 ct40 : Value}
    {a41 : Addr} {od41 an41 : Option Addr} {sl41 : Array (Option Value)} {oc41 kV41 dc41 pm41 cd41 ct41 : Value}
    {a42 : Addr} {od42 an42 : Option Addr} {sl42 : Array (Option Value)} {oc42 kV42 dc42 pm42 cd42 ct42 : Value}
    {C1 N1_ : Addr} {nm1 qn1 : Str} {bs1 bm1 su1 : List Value} {sn1 : List Str} {ab1 : Bool} {co1 : Option Bool} {dd1 : Option Addr} {x1a x1b x1c x1d x1e : Option Value}
    {I1 : Addr} {od1I an1I : Option Addr} {sl1I : Array (Option Value)} {oc1I dc1I pm1I cd1I ct1I : Value}
    {C2 N2_ : Addr} {nm2 qn2 : Str} {bs2 bm2 su2 : List Value} {sn2 : List Str} {ab2 : Bool} {co2 : Option Bool} {dd2 : Option Addr} {x2a x2b x2c x2d x2e : Option Value}
    {I2 : Addr} {od2I an2I : Option Addr} {sl2I : Array (Option Value)} {oc2I dc2I pm2I cd2I ct2I : Value}
    {C3 N3_ : Addr} {nm3 qn3 : Str} {bs3 bm3 su3 : List Value} {sn3 : List Str} {ab3 : Bool} {co3 : Option Bool} {dd3 : Option Addr} {x3a x3b x3c x3d x3e : Option Value}
    {I3 : Addr} {od3I an3I : Option Addr} {sl3I : Array (Option Value)} {oc3I dc3I pm3I cd3I ct3I : Value}
    {C4 N4_ : Addr} {nm4 qn4 : Str} {bs4 bm4 su4 : List Value} {sn4 : List Str} {ab4 : Bool} {co4 : Option Bool} {dd4 : Option Addr} {x4a x4b x4c x4d x4e : Option Value}
    {I4 : Addr} {od4I an4I : Option Addr} {sl4I : Array (Option Value)} {oc4I dc4I pm4I cd4I ct4I : Value}
    {C5 N5_ : Addr} {nm5 qn5 : Str} {bs5 bm5 su5 : List Value} {sn5 : List Str} {ab5 : Bool} {co5 : Option Bool} {dd5 : Option Addr} {x5a x5b x5c x5d x5e : Option Value}
    {I5 : Addr} {od5I an5I : Option Addr} {sl5I : Array (Option Value)} {oc5I dc5I pm5I cd5I ct5I : Value}
    (n0 : PySem.W.nsIn K mainGlobals "_wall" = some (some (.ref a0)))
    (l0 : K.lookup a0 = some ⟨oc0, od0, .func (PySem.W.fnOf "_wall" "_wall" (defArgs s0) (defBody s0) (defScope s0) .none kV0 dc0 pm0 an0 cd0 ct0), sl0⟩)
    (c0 : PySem.W.codeIn K cd0 "_wall" = true)
    (k0 : PySem.W.keepIn K (.ref a0) = true)
    (n1 : PySem.W.nsIn K mainGlobals "is_whole" = some (some (.ref a1)))
    (l1 : K.lookup a1 = some ⟨oc1, od1, .func (PySem.W.fnOf "is_whole" "is_whole" (defArgs s1) (defBody s1) (defScope s1) .none kV1 dc1 pm1 an1 cd1 ct1), sl1⟩)
    (c1 : PySem.W.codeIn K cd1 "is_whole" = true)
    (k1 : PySem.W.keepIn K (.ref a1) = true)
    (n2 : PySem.W.nsIn K mainGlobals "check_most" = some (some (.ref a2)))
    (l2 : K.lookup a2 = some ⟨oc2, od2, .func (PySem.W.fnOf "check_most" "check_most" (defArgs s2) (defBody s2) (defScope s2) .none kV2 dc2 pm2 an2 cd2 ct2), sl2⟩)
    (c2 : PySem.W.codeIn K cd2 "check_most" = true)
    (k2 : PySem.W.keepIn K (.ref a2) = true)
    (n3 : PySem.W.nsIn K mainGlobals "check_row" = some (some (.ref a3)))
    (l3 : K.lookup a3 = some ⟨oc3, od3, .func (PySem.W.fnOf "check_row" "check_row" (defArgs s3) (defBody s3) (defScope s3) .none kV3 dc3 pm3 an3 cd3 ct3), sl3⟩)
    (c3 : PySem.W.codeIn K cd3 "check_row" = true)
    (k3 : PySem.W.keepIn K (.ref a3) = true)
    (n4 : PySem.W.nsIn K mainGlobals "check_items" = some (some (.ref a4)))
    (l4 : K.lookup a4 = some ⟨oc4, od4, .func (PySem.W.fnOf "check_items" "check_items" (defArgs s4) (defBody s4) (defScope s4) .none kV4 dc4 pm4 an4 cd4 ct4), sl4⟩)
    (c4 : PySem.W.codeIn K cd4 "check_items" = true)
    (k4 : PySem.W.keepIn K (.ref a4) = true)
    (n5 : PySem.W.nsIn K mainGlobals "is_of_box" = some (some (.ref a5)))
    (l5 : K.lookup a5 = some ⟨oc5, od5, .func (PySem.W.fnOf "is_of_box" "is_of_box" (defArgs s5) (defBody s5) (defScope s5) .none kV5 dc5 pm5 an5 cd5 ct5), sl5⟩)
    (c5 : PySem.W.codeIn K cd5 "is_of_box" = true)
    (k5 : PySem.W.keepIn K (.ref a5) = true)
    (n6 : PySem.W.nsIn K mainGlobals "two_ends" = some (some (.ref a6)))
    (l6 : K.lookup a6 = some ⟨oc6, od6, .func (PySem.W.fnOf "two_ends" "two_ends" (defArgs s6) (defBody s6) (defScope s6) .none kV6 dc6 pm6 an6 cd6 ct6), sl6⟩)
    (c6 : PySem.W.codeIn K cd6 "two_ends" = true)
    (k6 : PySem.W.keepIn K (.ref a6) = true)
    (n7 : PySem.W.nsIn K mainGlobals "check_organs" = some (some (.ref a7)))
    (l7 : K.lookup a7 = some ⟨oc7, od7, .func (PySem.W.fnOf "check_organs" "check_organs" (defArgs s7) (defBody s7) (defScope s7) .none kV7 dc7 pm7 an7 cd7 ct7), sl7⟩)
    (c7 : PySem.W.codeIn K cd7 "check_organs" = true)
    (k7 : PySem.W.keepIn K (.ref a7) = true)
    (n8 : PySem.W.nsIn K mainGlobals "hearing_foe" = some (some (.ref a8)))
    (l8 : K.lookup a8 = some ⟨oc8, od8, .func (PySem.W.fnOf "hearing_foe" "hearing_foe" (defArgs s8) (defBody s8) (defScope s8) .none kV8 dc8 pm8 an8 cd8 ct8), sl8⟩)
    (c8 : PySem.W.codeIn K cd8 "hearing_foe" = true)
    (k8 : PySem.W.keepIn K (.ref a8) = true)
    (n9 : PySem.W.nsIn K mainGlobals "runs_of" = some (some (.ref a9)))
    (l9 : K.lookup a9 = some ⟨oc9, od9, .func (PySem.W.fnOf "runs_of" "runs_of" (defArgs s9) (defBody s9) (defScope s9) .none kV9 dc9 pm9 an9 cd9 ct9), sl9⟩)
    (c9 : PySem.W.codeIn K cd9 "runs_of" = true)
    (k9 : PySem.W.keepIn K (.ref a9) = true)
    (n10 : PySem.W.nsIn K mainGlobals "flags_of" = some (some (.ref a10)))
    (l10 : K.lookup a10 = some ⟨oc10, od10, .func (PySem.W.fnOf "flags_of" "flags_of" (defArgs s10) (defBody s10) (defScope s10) .none kV10 dc10 pm10 an10 cd10 ct10), sl10⟩)
    (c10 : PySem.W.codeIn K cd10 "flags_of" = true)
    (k10 : PySem.W.keepIn K (.ref a10) = true)
    (n11 : PySem.W.nsIn K mainGlobals "notes_of_flags" = some (some (.ref a11)))
    (l11 : K.lookup a11 = some ⟨oc11, od11, .func (PySem.W.fnOf "notes_of_flags" "notes_of_flags" (defArgs s11) (defBody s11) (defScope s11) .none kV11 dc11 pm11 an11 cd11 ct11), sl11⟩)
    (c11 : PySem.W.codeIn K cd11 "notes_of_flags" = true)
    (k11 : PySem.W.keepIn K (.ref a11) = true)
    (n12 : PySem.W.nsIn K mainGlobals "steady_notes" = some (some (.ref a12)))
    (l12 : K.lookup a12 = some ⟨oc12, od12, .func (PySem.W.fnOf "steady_notes" "steady_notes" (defArgs s12) (defBody s12) (defScope s12) .none kV12 dc12 pm12 an12 cd12 ct12), sl12⟩)
    (c12 : PySem.W.codeIn K cd12 "steady_notes" = true)
    (k12 : PySem.W.keepIn K (.ref a12) = true)
    (n13 : PySem.W.nsIn K mainGlobals "spread_of" = some (some (.ref a13)))
    (l13 : K.lookup a13 = some ⟨oc13, od13, .func (PySem.W.fnOf "spread_of" "spread_of" (defArgs s13) (defBody s13) (defScope s13) .none kV13 dc13 pm13 an13 cd13 ct13), sl13⟩)
    (c13 : PySem.W.codeIn K cd13 "spread_of" = true)
    (k13 : PySem.W.keepIn K (.ref a13) = true)
    (n14 : PySem.W.nsIn K mainGlobals "latch_notes" = some (some (.ref a14)))
    (l14 : K.lookup a14 = some ⟨oc14, od14, .func (PySem.W.fnOf "latch_notes" "latch_notes" (defArgs s14) (defBody s14) (defScope s14) .none kV14 dc14 pm14 an14 cd14 ct14), sl14⟩)
    (c14 : PySem.W.codeIn K cd14 "latch_notes" = true)
    (k14 : PySem.W.keepIn K (.ref a14) = true)
    (n15 : PySem.W.nsIn K mainGlobals "_law_purse" = some (some (.ref a15)))
    (l15 : K.lookup a15 = some ⟨oc15, od15, .func (PySem.W.fnOf "_law_purse" "_law_purse" (defArgs s15) (defBody s15) (defScope s15) .none kV15 dc15 pm15 an15 cd15 ct15), sl15⟩)
    (c15 : PySem.W.codeIn K cd15 "_law_purse" = true)
    (k15 : PySem.W.keepIn K (.ref a15) = true)
    (n16 : PySem.W.nsIn K mainGlobals "_law_draw" = some (some (.ref a16)))
    (l16 : K.lookup a16 = some ⟨oc16, od16, .func (PySem.W.fnOf "_law_draw" "_law_draw" (defArgs s16) (defBody s16) (defScope s16) .none kV16 dc16 pm16 an16 cd16 ct16), sl16⟩)
    (c16 : PySem.W.codeIn K cd16 "_law_draw" = true)
    (k16 : PySem.W.keepIn K (.ref a16) = true)
    (n17 : PySem.W.nsIn K mainGlobals "_law_mix" = some (some (.ref a17)))
    (l17 : K.lookup a17 = some ⟨oc17, od17, .func (PySem.W.fnOf "_law_mix" "_law_mix" (defArgs s17) (defBody s17) (defScope s17) .none kV17 dc17 pm17 an17 cd17 ct17), sl17⟩)
    (c17 : PySem.W.codeIn K cd17 "_law_mix" = true)
    (k17 : PySem.W.keepIn K (.ref a17) = true)
    (n18 : PySem.W.nsIn K mainGlobals "_law_runs" = some (some (.ref a18)))
    (l18 : K.lookup a18 = some ⟨oc18, od18, .func (PySem.W.fnOf "_law_runs" "_law_runs" (defArgs s18) (defBody s18) (defScope s18) .none kV18 dc18 pm18 an18 cd18 ct18), sl18⟩)
    (c18 : PySem.W.codeIn K cd18 "_law_runs" = true)
    (k18 : PySem.W.keepIn K (.ref a18) = true)
    (n19 : PySem.W.nsIn K mainGlobals "_law_flags" = some (some (.ref a19)))
    (l19 : K.lookup a19 = some ⟨oc19, od19, .func (PySem.W.fnOf "_law_flags" "_law_flags" (defArgs s19) (defBody s19) (defScope s19) .none kV19 dc19 pm19 an19 cd19 ct19), sl19⟩)
    (c19 : PySem.W.codeIn K cd19 "_law_flags" = true)
    (k19 : PySem.W.keepIn K (.ref a19) = true)
    (n20 : PySem.W.nsIn K mainGlobals "_law_notes" = some (some (.ref a20)))
    (l20 : K.lookup a20 = some ⟨oc20, od20, .func (PySem.W.fnOf "_law_notes" "_law_notes" (defArgs s20) (defBody s20) (defScope s20) .none kV20 dc20 pm20 an20 cd20 ct20), sl20⟩)
    (c20 : PySem.W.codeIn K cd20 "_law_notes" = true)
    (k20 : PySem.W.keepIn K (.ref a20) = true)
    (n21 : PySem.W.nsIn K mainGlobals "_law_steady" = some (some (.ref a21)))
    (l21 : K.lookup a21 = some ⟨oc21, od21, .func (PySem.W.fnOf "_law_steady" "_law_steady" (defArgs s21) (defBody s21) (defScope s21) .none kV21 dc21 pm21 an21 cd21 ct21), sl21⟩)
    (c21 : PySem.W.codeIn K cd21 "_law_steady" = true)
    (k21 : PySem.W.keepIn K (.ref a21) = true)
    (n22 : PySem.W.nsIn K mainGlobals "_law_spread" = some (some (.ref a22)))
    (l22 : K.lookup a22 = some ⟨oc22, od22, .func (PySem.W.fnOf "_law_spread" "_law_spread" (defArgs s22) (defBody s22) (defScope s22) .none kV22 dc22 pm22 an22 cd22 ct22), sl22⟩)
    (c22 : PySem.W.codeIn K cd22 "_law_spread" = true)
    (k22 : PySem.W.keepIn K (.ref a22) = true)
    (n23 : PySem.W.nsIn K mainGlobals "_law_latch" = some (some (.ref a23)))
    (l23 : K.lookup a23 = some ⟨oc23, od23, .func (PySem.W.fnOf "_law_latch" "_law_latch" (defArgs s23) (defBody s23) (defScope s23) .none kV23 dc23 pm23 an23 cd23 ct23), sl23⟩)
    (c23 : PySem.W.codeIn K cd23 "_law_latch" = true)
    (k23 : PySem.W.keepIn K (.ref a23) = true)
    (n24 : PySem.W.nsIn K mainGlobals "_law_box_organs" = some (some (.ref a24)))
    (l24 : K.lookup a24 = some ⟨oc24, od24, .func (PySem.W.fnOf "_law_box_organs" "_law_box_organs" (defArgs s24) (defBody s24) (defScope s24) .none kV24 dc24 pm24 an24 cd24 ct24), sl24⟩)
    (c24 : PySem.W.codeIn K cd24 "_law_box_organs" = true)
    (k24 : PySem.W.keepIn K (.ref a24) = true)
    (n25 : PySem.W.nsIn K mainGlobals "_law_box" = some (some (.ref a25)))
    (l25 : K.lookup a25 = some ⟨oc25, od25, .func (PySem.W.fnOf "_law_box" "_law_box" (defArgs s25) (defBody s25) (defScope s25) .none kV25 dc25 pm25 an25 cd25 ct25), sl25⟩)
    (c25 : PySem.W.codeIn K cd25 "_law_box" = true)
    (k25 : PySem.W.keepIn K (.ref a25) = true)
    (n26 : PySem.W.nsIn K mainGlobals "_law_draw_row" = some (some (.ref a26)))
    (l26 : K.lookup a26 = some ⟨oc26, od26, .func (PySem.W.fnOf "_law_draw_row" "_law_draw_row" (defArgs s26) (defBody s26) (defScope s26) .none kV26 dc26 pm26 an26 cd26 ct26), sl26⟩)
    (c26 : PySem.W.codeIn K cd26 "_law_draw_row" = true)
    (k26 : PySem.W.keepIn K (.ref a26) = true)
    (n27 : PySem.W.nsIn K mainGlobals "_law_note_lines" = some (some (.ref a27)))
    (l27 : K.lookup a27 = some ⟨oc27, od27, .func (PySem.W.fnOf "_law_note_lines" "_law_note_lines" (defArgs s27) (defBody s27) (defScope s27) .none kV27 dc27 pm27 an27 cd27 ct27), sl27⟩)
    (c27 : PySem.W.codeIn K cd27 "_law_note_lines" = true)
    (k27 : PySem.W.keepIn K (.ref a27) = true)
    (n28 : PySem.W.nsIn K mainGlobals "_law_rest_lines" = some (some (.ref a28)))
    (l28 : K.lookup a28 = some ⟨oc28, od28, .func (PySem.W.fnOf "_law_rest_lines" "_law_rest_lines" (defArgs s28) (defBody s28) (defScope s28) .none kV28 dc28 pm28 an28 cd28 ct28), sl28⟩)
    (c28 : PySem.W.codeIn K cd28 "_law_rest_lines" = true)
    (k28 : PySem.W.keepIn K (.ref a28) = true)
    (n29 : PySem.W.nsIn K mainGlobals "_law_same_row" = some (some (.ref a29)))
    (l29 : K.lookup a29 = some ⟨oc29, od29, .func (PySem.W.fnOf "_law_same_row" "_law_same_row" (defArgs s29) (defBody s29) (defScope s29) .none kV29 dc29 pm29 an29 cd29 ct29), sl29⟩)
    (c29 : PySem.W.codeIn K cd29 "_law_same_row" = true)
    (k29 : PySem.W.keepIn K (.ref a29) = true)
    (n30 : PySem.W.nsIn K mainGlobals "_law_unlike_row" = some (some (.ref a30)))
    (l30 : K.lookup a30 = some ⟨oc30, od30, .func (PySem.W.fnOf "_law_unlike_row" "_law_unlike_row" (defArgs s30) (defBody s30) (defScope s30) .none kV30 dc30 pm30 an30 cd30 ct30), sl30⟩)
    (c30 : PySem.W.codeIn K cd30 "_law_unlike_row" = true)
    (k30 : PySem.W.keepIn K (.ref a30) = true)
    (n31 : PySem.W.nsIn K mainGlobals "_law_lack" = some (some (.ref a31)))
    (l31 : K.lookup a31 = some ⟨oc31, od31, .func (PySem.W.fnOf "_law_lack" "_law_lack" (defArgs s31) (defBody s31) (defScope s31) .none kV31 dc31 pm31 an31 cd31 ct31), sl31⟩)
    (c31 : PySem.W.codeIn K cd31 "_law_lack" = true)
    (k31 : PySem.W.keepIn K (.ref a31) = true)
    (n32 : PySem.W.nsIn K mainGlobals "_law_lacking" = some (some (.ref a32)))
    (l32 : K.lookup a32 = some ⟨oc32, od32, .func (PySem.W.fnOf "_law_lacking" "_law_lacking" (defArgs s32) (defBody s32) (defScope s32) .none kV32 dc32 pm32 an32 cd32 ct32), sl32⟩)
    (c32 : PySem.W.codeIn K cd32 "_law_lacking" = true)
    (k32 : PySem.W.keepIn K (.ref a32) = true)
    (n33 : PySem.W.nsIn K mainGlobals "_law_rows_part" = some (some (.ref a33)))
    (l33 : K.lookup a33 = some ⟨oc33, od33, .func (PySem.W.fnOf "_law_rows_part" "_law_rows_part" (defArgs s33) (defBody s33) (defScope s33) .none kV33 dc33 pm33 an33 cd33 ct33), sl33⟩)
    (c33 : PySem.W.codeIn K cd33 "_law_rows_part" = true)
    (k33 : PySem.W.keepIn K (.ref a33) = true)
    (n34 : PySem.W.nsIn K mainGlobals "_law_set_of" = some (some (.ref a34)))
    (l34 : K.lookup a34 = some ⟨oc34, od34, .func (PySem.W.fnOf "_law_set_of" "_law_set_of" (defArgs s34) (defBody s34) (defScope s34) .none kV34 dc34 pm34 an34 cd34 ct34), sl34⟩)
    (c34 : PySem.W.codeIn K cd34 "_law_set_of" = true)
    (k34 : PySem.W.keepIn K (.ref a34) = true)
    (n35 : PySem.W.nsIn K mainGlobals "_law_slow_known" = some (some (.ref a35)))
    (l35 : K.lookup a35 = some ⟨oc35, od35, .func (PySem.W.fnOf "_law_slow_known" "_law_slow_known" (defArgs s35) (defBody s35) (defScope s35) .none kV35 dc35 pm35 an35 cd35 ct35), sl35⟩)
    (c35 : PySem.W.codeIn K cd35 "_law_slow_known" = true)
    (k35 : PySem.W.keepIn K (.ref a35) = true)
    (n36 : PySem.W.nsIn K mainGlobals "_law_all_sets" = some (some (.ref a36)))
    (l36 : K.lookup a36 = some ⟨oc36, od36, .func (PySem.W.fnOf "_law_all_sets" "_law_all_sets" (defArgs s36) (defBody s36) (defScope s36) .none kV36 dc36 pm36 an36 cd36 ct36), sl36⟩)
    (c36 : PySem.W.codeIn K cd36 "_law_all_sets" = true)
    (k36 : PySem.W.keepIn K (.ref a36) = true)
    (n37 : PySem.W.nsIn K mainGlobals "law" = some (some (.ref a37)))
    (l37 : K.lookup a37 = some ⟨oc37, od37, .func (PySem.W.fnOf "law" "law" (defArgs s37) (defBody s37) (defScope s37) .none kV37 dc37 pm37 an37 cd37 ct37), sl37⟩)
    (c37 : PySem.W.codeIn K cd37 "law" = true)
    (k37 : PySem.W.keepIn K (.ref a37) = true)
    (e6 : PySem.W.nsIn K mainGlobals "Box" = some (some (.ref C6)))
    (mi6 : PySem.W.findIn K (.ref C6) "__init__" = some (some (.ref a38)))
    (mm6 : PySem.W.makesIn K C6 = true)
    (mf6 : PySem.W.isFn K (.ref a38) = true)
    (mk6 : PySem.W.keepIn K (.ref C6) = true)
    (g1_6 : PySem.W.plainGet K C6 Str.empty = true)
    (g2_6 : PySem.W.hasDictIn K C6 = true)
    (g3_6 : PySem.W.plainOver K C6 = true)
    (g4_6 : PySem.W.findIn K (.ref C6) "__setattr__" = some (some (.builtin "object.__setattr__")))
    (g5_6_0 : PySem.W.findIn K (.ref C6) "a0" = some none)
    (g5_6_1 : PySem.W.findIn K (.ref C6) "a1" = some none)
    (g5_6_2 : PySem.W.findIn K (.ref C6) "g0" = some none)
    (g5_6_3 : PySem.W.findIn K (.ref C6) "g1" = some none)
    (l38 : K.lookup a38 = some ⟨oc38, od38, .func (PySem.W.fnOf "__init__" "Box.__init__" (defArgs s38) (defBody s38) (defScope s38) .none kV38 dc38 pm38 an38 cd38 ct38), sl38⟩)
    (c38 : PySem.W.codeIn K cd38 "Box.__init__" = true)
    (k38 : PySem.W.keepIn K (.ref a38) = true)
    (mi6_39 : PySem.W.findIn K (.ref C6) "quick" = some (some (.ref a39)))
    (mf6_39 : PySem.W.isFn K (.ref a39) = true)
    (l39 : K.lookup a39 = some ⟨oc39, od39, .func (PySem.W.fnOf "quick" "Box.quick" (defArgs s39) (defBody s39) (defScope s39) .none kV39 dc39 pm39 an39 cd39 ct39), sl39⟩)
    (c39 : PySem.W.codeIn K cd39 "Box.quick" = true)
    (k39 : PySem.W.keepIn K (.ref a39) = true)
    (mi6_40 : PySem.W.findIn K (.ref C6) "slow" = some (some (.ref a40)))
    (mf6_40 : PySem.W.isFn K (.ref a40) = true)
    (l40 : K.lookup a40 = some ⟨oc40, od40, .func (PySem.W.fnOf "slow" "Box.slow" (defArgs s40) (defBody s40) (defScope s40) .none kV40 dc40 pm40 an40 cd40 ct40), sl40⟩)
    (c40 : PySem.W.codeIn K cd40 "Box.slow" = true)
    (k40 : PySem.W.keepIn K (.ref a40) = true)
    (mi6_41 : PySem.W.findIn K (.ref C6) "ready" = some (some (.ref a41)))
    (mf6_41 : PySem.W.isFn K (.ref a41) = true)
    (l41 : K.lookup a41 = some ⟨oc41, od41, .func (PySem.W.fnOf "ready" "Box.ready" (defArgs s41) (defBody s41) (defScope s41) .none kV41 dc41 pm41 an41 cd41 ct41), sl41⟩)
    (c41 : PySem.W.codeIn K cd41 "Box.ready" = true)
    (k41 : PySem.W.keepIn K (.ref a41) = true)
    (mi6_42 : PySem.W.findIn K (.ref C6) "dull" = some (some (.ref a42)))
    (mf6_42 : PySem.W.isFn K (.ref a42) = true)
    (l42 : K.lookup a42 = some ⟨oc42, od42, .func (PySem.W.fnOf "dull" "Box.dull" (defArgs s42) (defBody s42) (defScope s42) .none kV42 dc42 pm42 an42 cd42 ct42), sl42⟩)
    (c42 : PySem.W.codeIn K cd42 "Box.dull" = true)
    (k42 : PySem.W.keepIn K (.ref a42) = true)
    (b0 : PySem.W.nsIn K mainGlobals "len" = some none)
    (b1 : PySem.W.nsIn K mainGlobals "abs" = some none)
    (b2 : PySem.W.nsIn K mainGlobals "int" = some none)
    (b3 : PySem.W.nsIn K mainGlobals "sum" = some none)
    (b4 : PySem.W.nsIn K mainGlobals "max" = some none)
    (b5 : PySem.W.nsIn K mainGlobals "min" = some none)
    (b6 : PySem.W.nsIn K mainGlobals "list" = some none)
    (b7 : PySem.W.nsIn K mainGlobals "sorted" = some none)
    (b8 : PySem.W.nsIn K mainGlobals "all" = some none)
    (b9 : PySem.W.nsIn K mainGlobals "any" = some none)
    (b10 : PySem.W.nsIn K mainGlobals "range" = some none)
    (b11 : PySem.W.nsIn K mainGlobals "isinstance" = some none)
    (b12 : PySem.W.nsIn K mainGlobals "bool" = some none)
    (b13 : PySem.W.nsIn K mainGlobals "str" = some none)
    (b14 : PySem.W.nsIn K mainGlobals "tuple" = some none)
    (b15 : PySem.W.nsIn K mainGlobals "dict" = some none)
    (e1 : PySem.W.nsIn K mainGlobals "TooMany" = some (some (.ref C1)))
    (xc1 : K.lookup C1 = some (excClassObj nm1 qn1 C1 N1_ bs1 bm1 true sn1 su1 ab1 co1 dd1 x1a x1b x1c x1d x1e "ValueError.__new__"))
    (xb1 : PySem.HandSPX.refsVE bm1 = true)
    (sa1 : PySem.W.findIn K (.ref C1) "__setattr__" = some (some (.builtin "object.__setattr__")))
    (ga1 : PySem.W.findIn K (.ref C1) "__getattribute__" = some (some (.builtin "BaseException.__getattribute__")))
    (gg1 : PySem.W.findIn K (.ref C1) "__getattr__" = some none)
    (kc1 : PySem.W.keepIn K (.ref C1) = true)
    (ec1 : PySem.W.subIn K (.ref C1) (.type "BaseException") = some true)
    (tc1 : PySem.W.typeIn K (.ref C1) = some (.type "type"))
    (hc1 : PySem.W.hasDictIn K C1 = true)
    (nf1 : PySem.W.findIn K (.ref C1) "what" = some none)
    (ic1 : PySem.W.findIn K (.ref C1) "__init__" = some (some (.ref I1)))
    (ti1 : PySem.W.typeIn K (.ref I1) = some (.type "function"))
    (li1 : K.lookup I1 = some ⟨oc1I, od1I, .func (PySem.W.fnOf "__init__" "TooMany.__init__" (PySem.Err_what.iA ⟨9, 17, 9, 21⟩ ⟨9, 23, 9, 27⟩) (PySem.Err_what.iB ⟨10, 8, 10, 12⟩ ⟨10, 8, 10, 17⟩ ⟨10, 20, 10, 24⟩ ⟨10, 8, 10, 24⟩) PySem.Err_what.iS .none .none dc1I pm1I an1I cd1I ct1I), sl1I⟩)
    (ci1 : PySem.W.codeIn K cd1I "TooMany.__init__" = true)
    (e2 : PySem.W.nsIn K mainGlobals "BadRow" = some (some (.ref C2)))
    (xc2 : K.lookup C2 = some (excClassObj nm2 qn2 C2 N2_ bs2 bm2 true sn2 su2 ab2 co2 dd2 x2a x2b x2c x2d x2e "ValueError.__new__"))
    (xb2 : PySem.HandSPX.refsVE bm2 = true)
    (sa2 : PySem.W.findIn K (.ref C2) "__setattr__" = some (some (.builtin "object.__setattr__")))
    (ga2 : PySem.W.findIn K (.ref C2) "__getattribute__" = some (some (.builtin "BaseException.__getattribute__")))
    (gg2 : PySem.W.findIn K (.ref C2) "__getattr__" = some none)
    (kc2 : PySem.W.keepIn K (.ref C2) = true)
    (ec2 : PySem.W.subIn K (.ref C2) (.type "BaseException") = some true)
    (tc2 : PySem.W.typeIn K (.ref C2) = some (.type "type"))
    (hc2 : PySem.W.hasDictIn K C2 = true)
    (nf2 : PySem.W.findIn K (.ref C2) "line" = some none)
    (ic2 : PySem.W.findIn K (.ref C2) "__init__" = some (some (.ref I2)))
    (ti2 : PySem.W.typeIn K (.ref I2) = some (.type "function"))
    (li2 : K.lookup I2 = some ⟨oc2I, od2I, .func (PySem.W.fnOf "__init__" "BadRow.__init__" (PySem.Err_line.iA ⟨13, 17, 13, 21⟩ ⟨13, 23, 13, 27⟩) (PySem.Err_line.iB ⟨14, 8, 14, 12⟩ ⟨14, 8, 14, 17⟩ ⟨14, 20, 14, 24⟩ ⟨14, 8, 14, 24⟩) PySem.Err_line.iS .none .none dc2I pm2I an2I cd2I ct2I), sl2I⟩)
    (ci2 : PySem.W.codeIn K cd2I "BadRow.__init__" = true)
    (e3 : PySem.W.nsIn K mainGlobals "BadBox" = some (some (.ref C3)))
    (xc3 : K.lookup C3 = some (excClassObj nm3 qn3 C3 N3_ bs3 bm3 true sn3 su3 ab3 co3 dd3 x3a x3b x3c x3d x3e "ValueError.__new__"))
    (xb3 : PySem.HandSPX.refsVE bm3 = true)
    (sa3 : PySem.W.findIn K (.ref C3) "__setattr__" = some (some (.builtin "object.__setattr__")))
    (ga3 : PySem.W.findIn K (.ref C3) "__getattribute__" = some (some (.builtin "BaseException.__getattribute__")))
    (gg3 : PySem.W.findIn K (.ref C3) "__getattr__" = some none)
    (kc3 : PySem.W.keepIn K (.ref C3) = true)
    (ec3 : PySem.W.subIn K (.ref C3) (.type "BaseException") = some true)
    (tc3 : PySem.W.typeIn K (.ref C3) = some (.type "type"))
    (hc3 : PySem.W.hasDictIn K C3 = true)
    (nf3 : PySem.W.findIn K (.ref C3) "what" = some none)
    (ic3 : PySem.W.findIn K (.ref C3) "__init__" = some (some (.ref I3)))
    (ti3 : PySem.W.typeIn K (.ref I3) = some (.type "function"))
    (li3 : K.lookup I3 = some ⟨oc3I, od3I, .func (PySem.W.fnOf "__init__" "BadBox.__init__" (PySem.Err_what.iA ⟨17, 17, 17, 21⟩ ⟨17, 23, 17, 27⟩) (PySem.Err_what.iB ⟨18, 8, 18, 12⟩ ⟨18, 8, 18, 17⟩ ⟨18, 20, 18, 24⟩ ⟨18, 8, 18, 24⟩) PySem.Err_what.iS .none .none dc3I pm3I an3I cd3I ct3I), sl3I⟩)
    (ci3 : PySem.W.codeIn K cd3I "BadBox.__init__" = true)
    (e4 : PySem.W.nsIn K mainGlobals "BadKind" = some (some (.ref C4)))
    (xc4 : K.lookup C4 = some (excClassObj nm4 qn4 C4 N4_ bs4 bm4 true sn4 su4 ab4 co4 dd4 x4a x4b x4c x4d x4e "ValueError.__new__"))
    (xb4 : PySem.HandSPX.refsVE bm4 = true)
    (sa4 : PySem.W.findIn K (.ref C4) "__setattr__" = some (some (.builtin "object.__setattr__")))
    (ga4 : PySem.W.findIn K (.ref C4) "__getattribute__" = some (some (.builtin "BaseException.__getattribute__")))
    (gg4 : PySem.W.findIn K (.ref C4) "__getattr__" = some none)
    (kc4 : PySem.W.keepIn K (.ref C4) = true)
    (ec4 : PySem.W.subIn K (.ref C4) (.type "BaseException") = some true)
    (tc4 : PySem.W.typeIn K (.ref C4) = some (.type "type"))
    (hc4 : PySem.W.hasDictIn K C4 = true)
    (nf4 : PySem.W.findIn K (.ref C4) "place" = some none)
    (ic4 : PySem.W.findIn K (.ref C4) "__init__" = some (some (.ref I4)))
    (ti4 : PySem.W.typeIn K (.ref I4) = some (.type "function"))
    (li4 : K.lookup I4 = some ⟨oc4I, od4I, .func (PySem.W.fnOf "__init__" "BadKind.__init__" (PySem.Err_place.iA ⟨21, 17, 21, 21⟩ ⟨21, 23, 21, 28⟩) (PySem.Err_place.iB ⟨22, 8, 22, 12⟩ ⟨22, 8, 22, 18⟩ ⟨22, 21, 22, 26⟩ ⟨22, 8, 22, 26⟩) PySem.Err_place.iS .none .none dc4I pm4I an4I cd4I ct4I), sl4I⟩)
    (ci4 : PySem.W.codeIn K cd4I "BadKind.__init__" = true)
    (e5 : PySem.W.nsIn K mainGlobals "BadSounds" = some (some (.ref C5)))
    (xc5 : K.lookup C5 = some (excClassObj nm5 qn5 C5 N5_ bs5 bm5 true sn5 su5 ab5 co5 dd5 x5a x5b x5c x5d x5e "ValueError.__new__"))
    (xb5 : PySem.HandSPX.refsVE bm5 = true)
    (sa5 : PySem.W.findIn K (.ref C5) "__setattr__" = some (some (.builtin "object.__setattr__")))
    (ga5 : PySem.W.findIn K (.ref C5) "__getattribute__" = some (some (.builtin "BaseException.__getattribute__")))
    (gg5 : PySem.W.findIn K (.ref C5) "__getattr__" = some none)
    (kc5 : PySem.W.keepIn K (.ref C5) = true)
    (ec5 : PySem.W.subIn K (.ref C5) (.type "BaseException") = some true)
    (tc5 : PySem.W.typeIn K (.ref C5) = some (.type "type"))
    (hc5 : PySem.W.hasDictIn K C5 = true)
    (nf5 : PySem.W.findIn K (.ref C5) "what" = some none)
    (ic5 : PySem.W.findIn K (.ref C5) "__init__" = some (some (.ref I5)))
    (ti5 : PySem.W.typeIn K (.ref I5) = some (.type "function"))
    (li5 : K.lookup I5 = some ⟨oc5I, od5I, .func (PySem.W.fnOf "__init__" "BadSounds.__init__" (PySem.Err_what.iA ⟨25, 17, 25, 21⟩ ⟨25, 23, 25, 27⟩) (PySem.Err_what.iB ⟨26, 8, 26, 12⟩ ⟨26, 8, 26, 17⟩ ⟨26, 20, 26, 24⟩ ⟨26, 8, 26, 24⟩) PySem.Err_what.iS .none .none dc5I pm5I an5I cd5I ct5I), sl5I⟩)
    (ci5 : PySem.W.codeIn K cd5I "BadSounds.__init__" = true)
    (lt : ∀ ns : List Int, ns.length ≤ 63 → VS.run P F 14 37 [(.lst (ns.map .int), .fz)] = .ok (.bl true, .dp) []) :
    ∃ fd : FuncData, (∀ (s : Shared) (u : Value), BindsTo s fd ⟨[u], []⟩ [("script", u)]) ∧ ∀ base : Heap, K.In base → base.Ns mainGlobals mg → FnOk prog w K mg base (L2.CX prog w) 28 fa fd ["script"] (spLaw 63) := by
  let C : Nat → Addr := fun c => ([0, C1, C2, C3, C4, C5, C6] : List Addr).getD c 0
  have t1 : PySem.Err_what.Txt K mg C1 I1 "TooMany" "TooMany.__init__" := { gC := PySem.W.mg_of X G e1, cls := ⟨_, _, _, _, _, _, _, _, _, _, _, _, _, _, _, xc1, xb1⟩, sa := sa1, ga := ga1, gg := gg1, noN := nf1, iC := ic1, tC := ti1, kC := kc1, exC := ec1, tyC := tc1, hdC := hc1, fn := ⟨_, _, _, _, _, _, _, _, _, _, _, _, _, _, li1, ci1⟩ }
  have t2 : PySem.Err_line.Txt K mg C2 I2 "BadRow" "BadRow.__init__" := { gC := PySem.W.mg_of X G e2, cls := ⟨_, _, _, _, _, _, _, _, _, _, _, _, _, _, _, xc2, xb2⟩, sa := sa2, ga := ga2, gg := gg2, noN := nf2, iC := ic2, tC := ti2, kC := kc2, exC := ec2, tyC := tc2, hdC := hc2, fn := ⟨_, _, _, _, _, _, _, _, _, _, _, _, _, _, li2, ci2⟩ }
  have t3 : PySem.Err_what.Txt K mg C3 I3 "BadBox" "BadBox.__init__" := { gC := PySem.W.mg_of X G e3, cls := ⟨_, _, _, _, _, _, _, _, _, _, _, _, _, _, _, xc3, xb3⟩, sa := sa3, ga := ga3, gg := gg3, noN := nf3, iC := ic3, tC := ti3, kC := kc3, exC := ec3, tyC := tc3, hdC := hc3, fn := ⟨_, _, _, _, _, _, _, _, _, _, _, _, _, _, li3, ci3⟩ }
  have t4 : PySem.Err_place.Txt K mg C4 I4 "BadKind" "BadKind.__init__" := { gC := PySem.W.mg_of X G e4, cls := ⟨_, _, _, _, _, _, _, _, _, _, _, _, _, _, _, xc4, xb4⟩, sa := sa4, ga := ga4, gg := gg4, noN := nf4, iC := ic4, tC := ti4, kC := kc4, exC := ec4, tyC := tc4, hdC := hc4, fn := ⟨_, _, _, _, _, _, _, _, _, _, _, _, _, _, li4, ci4⟩ }
  have t5 : PySem.Err_what.Txt K mg C5 I5 "BadSounds" "BadSounds.__init__" := { gC := PySem.W.mg_of X G e5, cls := ⟨_, _, _, _, _, _, _, _, _, _, _, _, _, _, _, xc5, xb5⟩, sa := sa5, ga := ga5, gg := gg5, noN := nf5, iC := ic5, tC := ti5, kC := kc5, exC := ec5, tyC := tc5, hdC := hc5, fn := ⟨_, _, _, _, _, _, _, _, _, _, _, _, _, _, li5, ci5⟩ }
  have er : Errs P T C K mg := by
    refine ⟨fun c hc => ?_, fun c hc => ?_, fun c d hc hd => ?_⟩
    · have _z := hc
      have qc : c ∈ ([1, 2, 3, 4, 5] : List Nat) := of_decide_eq_true hc
      clear hc
      simp only [List.mem_cons, List.not_mem_nil, or_false] at qc
      rcases qc with rfl | rfl | rfl | rfl | rfl
      · exact err_what t1
      · exact err_line t2
      · exact err_what t3
      · exact err_place t4
      · exact err_what t5
    · have _z := hc
      have qc : c ∈ ([] : List Nat) := of_decide_eq_true hc
      clear hc
      cases qc
    · have _z := hc
      have qd : d ∈ ([] : List Nat) := of_decide_eq_true hd
      clear hd
      cases qd
  have d0 : DefOk P T K mg "_wall" f0 := defOk_of X G n0 l0 c0 k0 sc0 (fun _ _ _ _ _ _ us hl => match us, hl with | [_], _ => rfl) rfl rfl (by decide) chk0
  have d1 : DefOk P T K mg "is_whole" f1 := defOk_of X G n1 l1 c1 k1 sc1 (fun _ _ _ _ _ _ us hl => match us, hl with | [_], _ => rfl) rfl rfl (by decide) chk1
  have d2 : DefOk P T K mg "check_most" f2 := defOk_of X G n2 l2 c2 k2 sc2 (fun _ _ _ _ _ _ us hl => match us, hl with | [_, _, _], _ => rfl) rfl rfl (by decide) chk2
  have d3 : DefOk P T K mg "check_row" f3 := defOk_of X G n3 l3 c3 k3 sc3 (fun _ _ _ _ _ _ us hl => match us, hl with | [_, _], _ => rfl) rfl rfl (by decide) chk3
  have d4 : DefOk P T K mg "check_items" f4 := defOk_of X G n4 l4 c4 k4 sc4 (fun _ _ _ _ _ _ us hl => match us, hl with | [_], _ => rfl) rfl rfl (by decide) chk4
  have d5 : DefOk P T K mg "is_of_box" f5 := defOk_of X G n5 l5 c5 k5 sc5 (fun _ _ _ _ _ _ us hl => match us, hl with | [_, _], _ => rfl) rfl rfl (by decide) chk5
  have d6 : DefOk P T K mg "two_ends" f6 := defOk_of X G n6 l6 c6 k6 sc6 (fun _ _ _ _ _ _ us hl => match us, hl with | [_], _ => rfl) rfl rfl (by decide) chk6
  have d7 : DefOk P T K mg "check_organs" f7 := defOk_of X G n7 l7 c7 k7 sc7 (fun _ _ _ _ _ _ us hl => match us, hl with | [_, _], _ => rfl) rfl rfl (by decide) chk7
  have d8 : DefOk P T K mg "hearing_foe" f8 := defOk_of X G n8 l8 c8 k8 sc8 (fun _ _ _ _ _ _ us hl => match us, hl with | [_, _], _ => rfl) rfl rfl (by decide) chk8
  have d9 : DefOk P T K mg "runs_of" f9 := defOk_of X G n9 l9 c9 k9 sc9 (fun _ _ _ _ _ _ us hl => match us, hl with | [_, _], _ => rfl) rfl rfl (by decide) chk9
  have d10 : DefOk P T K mg "flags_of" f10 := defOk_of X G n10 l10 c10 k10 sc10 (fun _ _ _ _ _ _ us hl => match us, hl with | [_, _, _, _], _ => rfl) rfl rfl (by decide) chk10
  have d11 : DefOk P T K mg "notes_of_flags" f11 := defOk_of X G n11 l11 c11 k11 sc11 (fun _ _ _ _ _ _ us hl => match us, hl with | [_], _ => rfl) rfl rfl (by decide) chk11
  have d12 : DefOk P T K mg "steady_notes" f12 := defOk_of X G n12 l12 c12 k12 sc12 (fun _ _ _ _ _ _ us hl => match us, hl with | [_, _, _], _ => rfl) rfl rfl (by decide) chk12
  have d13 : DefOk P T K mg "spread_of" f13 := defOk_of X G n13 l13 c13 k13 sc13 (fun _ _ _ _ _ _ us hl => match us, hl with | [_, _], _ => rfl) rfl rfl (by decide) chk13
  have d14 : DefOk P T K mg "latch_notes" f14 := defOk_of X G n14 l14 c14 k14 sc14 (fun _ _ _ _ _ _ us hl => match us, hl with | [_, _], _ => rfl) rfl rfl (by decide) chk14
  have d15 : DefOk P T K mg "_law_purse" f15 := defOk_of X G n15 l15 c15 k15 sc15 (fun _ _ _ _ _ _ us hl => match us, hl with | [_, _], _ => rfl) rfl rfl (by decide) chk15
  have d16 : DefOk P T K mg "_law_draw" f16 := defOk_of X G n16 l16 c16 k16 sc16 (fun _ _ _ _ _ _ us hl => match us, hl with | [_, _], _ => rfl) rfl rfl (by decide) chk16
  have d17 : DefOk P T K mg "_law_mix" f17 := defOk_of X G n17 l17 c17 k17 sc17 (fun _ _ _ _ _ _ us hl => match us, hl with | [_, _], _ => rfl) rfl rfl (by decide) chk17
  have d18 : DefOk P T K mg "_law_runs" f18 := defOk_of X G n18 l18 c18 k18 sc18 (fun _ _ _ _ _ _ us hl => match us, hl with | [_, _], _ => rfl) rfl rfl (by decide) chk18
  have d19 : DefOk P T K mg "_law_flags" f19 := defOk_of X G n19 l19 c19 k19 sc19 (fun _ _ _ _ _ _ us hl => match us, hl with | [_, _, _, _], _ => rfl) rfl rfl (by decide) chk19
  have d20 : DefOk P T K mg "_law_notes" f20 := defOk_of X G n20 l20 c20 k20 sc20 (fun _ _ _ _ _ _ us hl => match us, hl with | [_, _], _ => rfl) rfl rfl (by decide) chk20
  have d21 : DefOk P T K mg "_law_steady" f21 := defOk_of X G n21 l21 c21 k21 sc21 (fun _ _ _ _ _ _ us hl => match us, hl with | [_, _, _], _ => rfl) rfl rfl (by decide) chk21
  have d22 : DefOk P T K mg "_law_spread" f22 := defOk_of X G n22 l22 c22 k22 sc22 (fun _ _ _ _ _ _ us hl => match us, hl with | [_, _], _ => rfl) rfl rfl (by decide) chk22
  have d23 : DefOk P T K mg "_law_latch" f23 := defOk_of X G n23 l23 c23 k23 sc23 (fun _ _ _ _ _ _ us hl => match us, hl with | [_, _], _ => rfl) rfl rfl (by decide) chk23
  have d24 : DefOk P T K mg "_law_box_organs" f24 := defOk_of X G n24 l24 c24 k24 sc24 (fun _ _ _ _ _ _ us hl => match us, hl with | [_], _ => rfl) rfl rfl (by decide) chk24
  have d25 : DefOk P T K mg "_law_box" f25 := defOk_of X G n25 l25 c25 k25 sc25 (fun _ _ _ _ _ _ us hl => match us, hl with | [_], _ => rfl) rfl rfl (by decide) chk25
  have d26 : DefOk P T K mg "_law_draw_row" f26 := defOk_of X G n26 l26 c26 k26 sc26 (fun _ _ _ _ _ _ us hl => match us, hl with | [_, _, _], _ => rfl) rfl rfl (by decide) chk26
  have d27 : DefOk P T K mg "_law_note_lines" f27 := defOk_of X G n27 l27 c27 k27 sc27 (fun _ _ _ _ _ _ us hl => match us, hl with | [_, _], _ => rfl) rfl rfl (by decide) chk27
  have d28 : DefOk P T K mg "_law_rest_lines" f28 := defOk_of X G n28 l28 c28 k28 sc28 (fun _ _ _ _ _ _ us hl => match us, hl with | [_, _], _ => rfl) rfl rfl (by decide) chk28
  have d29 : DefOk P T K mg "_law_same_row" f29 := defOk_of X G n29 l29 c29 k29 sc29 (fun _ _ _ _ _ _ us hl => match us, hl with | [_, _, _], _ => rfl) rfl rfl (by decide) chk29
  have d30 : DefOk P T K mg "_law_unlike_row" f30 := defOk_of X G n30 l30 c30 k30 sc30 (fun _ _ _ _ _ _ us hl => match us, hl with | [_, _, _], _ => rfl) rfl rfl (by decide) chk30
  have d31 : DefOk P T K mg "_law_lack" f31 := defOk_of X G n31 l31 c31 k31 sc31 (fun _ _ _ _ _ _ us hl => match us, hl with | [_, _], _ => rfl) rfl rfl (by decide) chk31
  have d32 : DefOk P T K mg "_law_lacking" f32 := defOk_of X G n32 l32 c32 k32 sc32 (fun _ _ _ _ _ _ us hl => match us, hl with | [_, _], _ => rfl) rfl rfl (by decide) chk32
  have d33 : DefOk P T K mg "_law_rows_part" f33 := defOk_of X G n33 l33 c33 k33 sc33 (fun _ _ _ _ _ _ us hl => match us, hl with | [_, _, _, _], _ => rfl) rfl rfl (by decide) chk33
  have d34 : DefOk P T K mg "_law_set_of" f34 := defOk_of X G n34 l34 c34 k34 sc34 (fun _ _ _ _ _ _ us hl => match us, hl with | [_, _], _ => rfl) rfl rfl (by decide) chk34
  have d35 : DefOk P T K mg "_law_slow_known" f35 := defOk_of X G n35 l35 c35 k35 sc35 (fun _ _ _ _ _ _ us hl => match us, hl with | [_, _, _, _], _ => rfl) rfl rfl (by decide) chk35
  have d36 : DefOk P T K mg "_law_all_sets" f36 := defOk_of X G n36 l36 c36 k36 sc36 (fun _ _ _ _ _ _ us hl => match us, hl with | [_, _, _], _ => rfl) rfl rfl (by decide) chk36
  have d37 : DefOk P T K mg "law" f37 := defOk_of X G n37 l37 c37 k37 sc37 (fun _ _ _ _ _ _ us hl => match us, hl with | [_], _ => rfl) rfl rfl (by decide) chk37
  have pr : Prog P F C T K mg := by
    refine ⟨fun x hx => ?_, fun c f hf => ?_, fun f hf => ?_, er, fun c hc => ?_, fun c m f hm => ?_⟩
    · simp only [bnames, List.mem_cons, List.not_mem_nil, or_false] at hx
      rcases hx with rfl | rfl | rfl | rfl | rfl | rfl | rfl | rfl | rfl | rfl | rfl | rfl | rfl | rfl | rfl | rfl
      · exact PySem.W.mg_none_of X G b0
      · exact PySem.W.mg_none_of X G b1
      · exact PySem.W.mg_none_of X G b2
      · exact PySem.W.mg_none_of X G b3
      · exact PySem.W.mg_none_of X G b4
      · exact PySem.W.mg_none_of X G b5
      · exact PySem.W.mg_none_of X G b6
      · exact PySem.W.mg_none_of X G b7
      · exact PySem.W.mg_none_of X G b8
      · exact PySem.W.mg_none_of X G b9
      · exact PySem.W.mg_none_of X G b10
      · exact PySem.W.mg_none_of X G b11
      · exact PySem.W.mg_none_of X G b12
      · exact PySem.W.mg_none_of X G b13
      · exact PySem.W.mg_none_of X G b14
      · exact PySem.W.mg_none_of X G b15
    · have q : f ∈ foT c := of_decide_eq_true hf
      clear hf
      match c, q with
      | 6, q =>
        have cl : Cls K C6 := ⟨g1_6, g2_6, g3_6, g4_6⟩
        simp only [foT, List.mem_cons, List.not_mem_nil, or_false] at q
        rcases q with rfl | rfl | rfl | rfl
        · exact ⟨cl, g5_6_0⟩
        · exact ⟨cl, g5_6_1⟩
        · exact ⟨cl, g5_6_2⟩
        · exact ⟨cl, g5_6_3⟩
      | 0, q => cases q
      | 1, q => cases q
      | 2, q => cases q
      | 3, q => cases q
      | 4, q => cases q
      | 5, q => cases q
      | m + 7, q => cases q
    · have q : f < 38 := of_decide_eq_true hf
      match f, q with
      | 0, _ => exact d0
      | 1, _ => exact d1
      | 2, _ => exact d2
      | 3, _ => exact d3
      | 4, _ => exact d4
      | 5, _ => exact d5
      | 6, _ => exact d6
      | 7, _ => exact d7
      | 8, _ => exact d8
      | 9, _ => exact d9
      | 10, _ => exact d10
      | 11, _ => exact d11
      | 12, _ => exact d12
      | 13, _ => exact d13
      | 14, _ => exact d14
      | 15, _ => exact d15
      | 16, _ => exact d16
      | 17, _ => exact d17
      | 18, _ => exact d18
      | 19, _ => exact d19
      | 20, _ => exact d20
      | 21, _ => exact d21
      | 22, _ => exact d22
      | 23, _ => exact d23
      | 24, _ => exact d24
      | 25, _ => exact d25
      | 26, _ => exact d26
      | 27, _ => exact d27
      | 28, _ => exact d28
      | 29, _ => exact d29
      | 30, _ => exact d30
      | 31, _ => exact d31
      | 32, _ => exact d32
      | 33, _ => exact d33
      | 34, _ => exact d34
      | 35, _ => exact d35
      | 36, _ => exact d36
      | 37, _ => exact d37
      | m + 38, z => exact absurd z (by omega)
    · skip
      have qc : c ∈ ([6] : List Nat) := of_decide_eq_true hc
      clear hc
      simp only [List.mem_cons, List.not_mem_nil, or_false] at qc
      rcases qc with rfl
      · have f := fun_mk (st := s38) l38 c38 k38
        exact ⟨a38, _, ["self", "a0", "a1", "g0", "g1"], N38, s38, "__init__", "Box.__init__", ⟨mm6, mi6, mf6, mk6⟩, PySem.W.mg_of X G e6, f.binds (ps := ["self", "a0", "a1", "g0", "g1"]) (fun _ _ _ _ _ _ us hl => match us, hl with | [_, _, _, _, _], _ => rfl), f, sc38, rfl, rfl, by decide, chk38⟩
    · have q := mth_mem (c := c) (m := m) (f := f) hm
      clear hm
      simp only [mL, List.mem_cons, List.not_mem_nil, or_false, Prod.mk.injEq] at q
      rcases q with ⟨rfl, rfl, rfl⟩ | ⟨rfl, rfl, rfl⟩ | ⟨rfl, rfl, rfl⟩ | ⟨rfl, rfl, rfl⟩
      · have f := fun_mk (st := s39) l39 c39 k39
        exact ⟨a39, _, ["self"], N39, s39, "quick", "Box.quick", ⟨g1_6, g2_6, g3_6, g4_6⟩, ⟨mi6_39, mf6_39, k39⟩, f.binds (ps := ["self"]) (fun _ _ _ _ _ _ us hl => match us, hl with | [_], _ => rfl), f, sc39, rfl, rfl, by decide, chk39⟩
      · have f := fun_mk (st := s40) l40 c40 k40
        exact ⟨a40, _, ["self"], N40, s40, "slow", "Box.slow", ⟨g1_6, g2_6, g3_6, g4_6⟩, ⟨mi6_40, mf6_40, k40⟩, f.binds (ps := ["self"]) (fun _ _ _ _ _ _ us hl => match us, hl with | [_], _ => rfl), f, sc40, rfl, rfl, by decide, chk40⟩
      · have f := fun_mk (st := s41) l41 c41 k41
        exact ⟨a41, _, ["self"], N41, s41, "ready", "Box.ready", ⟨g1_6, g2_6, g3_6, g4_6⟩, ⟨mi6_41, mf6_41, k41⟩, f.binds (ps := ["self"]) (fun _ _ _ _ _ _ us hl => match us, hl with | [_], _ => rfl), f, sc41, rfl, rfl, by decide, chk41⟩
      · have f := fun_mk (st := s42) l42 c42 k42
        exact ⟨a42, _, ["self"], N42, s42, "dull", "Box.dull", ⟨g1_6, g2_6, g3_6, g4_6⟩, ⟨mi6_42, mf6_42, k42⟩, f.binds (ps := ["self"]) (fun _ _ _ _ _ _ us hl => match us, hl with | [_], _ => rfl), f, sc42, rfl, rfl, by decide, chk42⟩
  have fl := fun_mk (st := s37) l37 c37 k37
  have e := hfa.symm.trans (PySem.W.mg_of X G n37)
  cases e
  refine ⟨PySem.W.fnOf "law" "law" (defArgs s37) (defBody s37) (defScope s37) .none kV37 dc37 pm37 an37 cd37 ct37, fun s u => .of_eq rfl, fun base _ _ => ?_⟩
  exact (pr.at prog w base 13 (pr.ok prog w base 13) (F1 := f37) fl sc37 rfl rfl (by decide) chk37).imp (law_imp lt)
end LW

set_option Elab.async false
set_option linter.all false
set_option maxRecDepth 100000
set_option maxHeartbeats 0
open PySem PySem.W PyProof.Rows
set_option maxRecDepth 100000 in
set_option maxHeartbeats 0 in
theorem PySem.Challenge.cw_everyorgan_k44_whole_which_sets_of_heari_holds : PySem.Challenge.rw_everyorgan_k44_whole_which_sets_of_heari.Holds := by
  w_on; o_law; k_head; (case hw => w_witness2)
  k_fill
  refine L2.walk_of (l := PySem.Challenge.rw_everyorgan_k44_whole_which_sets_of_heari) (n := 63) (k := 28) (x := "script") (CX := fun w => L2.CX PySem.Challenge.rw_everyorgan_k44_whole_which_sets_of_heari.prog w) (sp := fun w => VS.spLaw 63) (by rfl) (by decide) rfl ⟨rfl, by decide, by decide⟩ (fun w h Y => PySem.W.kIn_of Y) ?F ?S (fun _ _ _ _ _ h => VS.cx_none h)
  case F =>
    intro w mg fa h KX G hmg
    refine' LW.all_mk KX G hmg ?n0 ?l0 ?c0 ?k0 ?n1 ?l1 ?c1 ?k1 ?n2 ?l2 ?c2 ?k2 ?n3 ?l3 ?c3 ?k3 ?n4 ?l4 ?c4 ?k4 ?n5 ?l5 ?c5 ?k5 ?n6 ?l6 ?c6 ?k6 ?n7 ?l7 ?c7 ?k7 ?n8 ?l8 ?c8 ?k8 ?n9 ?l9 ?c9 ?k9 ?n10 ?l10 ?c10 ?k10 ?n11 ?l11 ?c11 ?k11 ?n12 ?l12 ?c12 ?k12 ?n13 ?l13 ?c13 ?k13 ?n14 ?l14 ?c14 ?k14 ?n15 ?l15 ?c15 ?k15 ?n16 ?l16 ?c16 ?k16 ?n17 ?l17 ?c17 ?k17 ?n18 ?l18 ?c18 ?k18 ?n19 ?l19 ?c19 ?k19 ?n20 ?l20 ?c20 ?k20 ?n21 ?l21 ?c21 ?k21 ?n22 ?l22 ?c22 ?k22 ?n23 ?l23 ?c23 ?k23 ?n24 ?l24 ?c24 ?k24 ?n25 ?l25 ?c25 ?k25 ?n26 ?l26 ?c26 ?k26 ?n27 ?l27 ?c27 ?k27 ?n28 ?l28 ?c28 ?k28 ?n29 ?l29 ?c29 ?k29 ?n30 ?l30 ?c30 ?k30 ?n31 ?l31 ?c31 ?k31 ?n32 ?l32 ?c32 ?k32 ?n33 ?l33 ?c33 ?k33 ?n34 ?l34 ?c34 ?k34 ?n35 ?l35 ?c35 ?k35 ?n36 ?l36 ?c36 ?k36 ?n37 ?l37 ?c37 ?k37 ?e6 ?mi6 ?mm6 ?mf6 ?mk6 ?g1_6 ?g2_6 ?g3_6 ?g4_6 ?g5_6_0 ?g5_6_1 ?g5_6_2 ?g5_6_3 ?l38 ?c38 ?k38 ?mi6_39 ?mf6_39 ?l39 ?c39 ?k39 ?mi6_40 ?mf6_40 ?l40 ?c40 ?k40 ?mi6_41 ?mf6_41 ?l41 ?c41 ?k41 ?mi6_42 ?mf6_42 ?l42 ?c42 ?k42 ?b0 ?b1 ?b2 ?b3 ?b4 ?b5 ?b6 ?b7 ?b8 ?b9 ?b10 ?b11 ?b12 ?b13 ?b14 ?b15 ?e1 ?xc1 ?xb1 ?sa1 ?ga1 ?gg1 ?kc1 ?ec1 ?tc1 ?hc1 ?nf1 ?ic1 ?ti1 ?li1 ?ci1 ?e2 ?xc2 ?xb2 ?sa2 ?ga2 ?gg2 ?kc2 ?ec2 ?tc2 ?hc2 ?nf2 ?ic2 ?ti2 ?li2 ?ci2 ?e3 ?xc3 ?xb3 ?sa3 ?ga3 ?gg3 ?kc3 ?ec3 ?tc3 ?hc3 ?nf3 ?ic3 ?ti3 ?li3 ?ci3 ?e4 ?xc4 ?xb4 ?sa4 ?ga4 ?gg4 ?kc4 ?ec4 ?tc4 ?hc4 ?nf4 ?ic4 ?ti4 ?li4 ?ci4 ?e5 ?xc5 ?xb5 ?sa5 ?ga5 ?gg5 ?kc5 ?ec5 ?tc5 ?hc5 ?nf5 ?ic5 ?ti5 ?li5 ?ci5 LW.law_true
    (case n0 => k_is); (case l0 => k_is); (case c0 => k_is); (case k0 => k_is); (case n1 => k_is); (case l1 => k_is)
    (case c1 => k_is); (case k1 => k_is); (case n2 => k_is); (case l2 => k_is); (case c2 => k_is); (case k2 => k_is)
    (case n3 => k_is); (case l3 => k_is); (case c3 => k_is); (case k3 => k_is); (case n4 => k_is); (case l4 => k_is)
    (case c4 => k_is); (case k4 => k_is); (case n5 => k_is); (case l5 => k_is); (case c5 => k_is); (case k5 => k_is)
    (case n6 => k_is); (case l6 => k_is); (case c6 => k_is); (case k6 => k_is); (case n7 => k_is); (case l7 => k_is)
    (case c7 => k_is); (case k7 => k_is); (case n8 => k_is); (case l8 => k_is); (case c8 => k_is); (case k8 => k_is)
    (case n9 => k_is); (case l9 => k_is); (case c9 => k_is); (case k9 => k_is); (case n10 => k_is); (case l10 => k_is)
    (case c10 => k_is); (case k10 => k_is); (case n11 => k_is); (case l11 => k_is); (case c11 => k_is); (case k11 => k_is)
    (case n12 => k_is); (case l12 => k_is); (case c12 => k_is); (case k12 => k_is); (case n13 => k_is); (case l13 => k_is)
    (case c13 => k_is); (case k13 => k_is); (case n14 => k_is); (case l14 => k_is); (case c14 => k_is); (case k14 => k_is)
    (case n15 => k_is); (case l15 => k_is); (case c15 => k_is); (case k15 => k_is); (case n16 => k_is); (case l16 => k_is)
    (case c16 => k_is); (case k16 => k_is); (case n17 => k_is); (case l17 => k_is); (case c17 => k_is); (case k17 => k_is)
    (case n18 => k_is); (case l18 => k_is); (case c18 => k_is); (case k18 => k_is); (case n19 => k_is); (case l19 => k_is)
    (case c19 => k_is); (case k19 => k_is); (case n20 => k_is); (case l20 => k_is); (case c20 => k_is); (case k20 => k_is)
    (case n21 => k_is); (case l21 => k_is); (case c21 => k_is); (case k21 => k_is); (case n22 => k_is); (case l22 => k_is)
    (case c22 => k_is); (case k22 => k_is); (case n23 => k_is); (case l23 => k_is); (case c23 => k_is); (case k23 => k_is)
    (case n24 => k_is); (case l24 => k_is); (case c24 => k_is); (case k24 => k_is); (case n25 => k_is); (case l25 => k_is)
    (case c25 => k_is); (case k25 => k_is); (case n26 => k_is); (case l26 => k_is); (case c26 => k_is); (case k26 => k_is)
    (case n27 => k_is); (case l27 => k_is); (case c27 => k_is); (case k27 => k_is); (case n28 => k_is); (case l28 => k_is)
    (case c28 => k_is); (case k28 => k_is); (case n29 => k_is); (case l29 => k_is); (case c29 => k_is); (case k29 => k_is)
    (case n30 => k_is); (case l30 => k_is); (case c30 => k_is); (case k30 => k_is); (case n31 => k_is); (case l31 => k_is)
    (case c31 => k_is); (case k31 => k_is); (case n32 => k_is); (case l32 => k_is); (case c32 => k_is); (case k32 => k_is)
    (case n33 => k_is); (case l33 => k_is); (case c33 => k_is); (case k33 => k_is); (case n34 => k_is); (case l34 => k_is)
    (case c34 => k_is); (case k34 => k_is); (case n35 => k_is); (case l35 => k_is); (case c35 => k_is); (case k35 => k_is)
    (case n36 => k_is); (case l36 => k_is); (case c36 => k_is); (case k36 => k_is); (case n37 => k_is); (case l37 => k_is)
    (case c37 => k_is); (case k37 => k_is); (case e6 => k_is); (case mi6 => first | rfl | k_is); (case mm6 => first | rfl | k_is); (case mf6 => first | rfl | k_is)
    (case mk6 => first | rfl | k_is); (case g1_6 => k_is); (case g2_6 => k_is); (case g3_6 => k_is); (case g4_6 => k_is); (case g5_6_0 => k_is)
    (case g5_6_1 => k_is); (case g5_6_2 => k_is); (case g5_6_3 => k_is); (case l38 => k_is); (case c38 => k_is); (case k38 => k_is)
    (case mi6_39 => first | rfl | k_is); (case mf6_39 => first | rfl | k_is); (case l39 => k_is); (case c39 => k_is); (case k39 => k_is); (case mi6_40 => first | rfl | k_is)
    (case mf6_40 => first | rfl | k_is); (case l40 => k_is); (case c40 => k_is); (case k40 => k_is); (case mi6_41 => first | rfl | k_is); (case mf6_41 => first | rfl | k_is)
    (case l41 => k_is); (case c41 => k_is); (case k41 => k_is); (case mi6_42 => first | rfl | k_is); (case mf6_42 => first | rfl | k_is); (case l42 => k_is)
    (case c42 => k_is); (case k42 => k_is); (case b0 => k_is); (case b1 => k_is); (case b2 => k_is); (case b3 => k_is)
    (case b4 => k_is); (case b5 => k_is); (case b6 => k_is); (case b7 => k_is); (case b8 => k_is); (case b9 => k_is)
    (case b10 => k_is); (case b11 => k_is); (case b12 => k_is); (case b13 => k_is); (case b14 => k_is); (case b15 => k_is)
    (case e1 => k_is); (case xc1 => k_is); (case xb1 => first | rfl | k_is); (case sa1 => k_is); (case ga1 => k_is); (case gg1 => k_is)
    (case kc1 => k_is); (case ec1 => k_is); (case tc1 => k_is); (case hc1 => k_is); (case nf1 => k_is); (case ic1 => k_is)
    (case ti1 => k_is); (case li1 => k_is); (case ci1 => k_is); (case e2 => k_is); (case xc2 => k_is); (case xb2 => first | rfl | k_is)
    (case sa2 => k_is); (case ga2 => k_is); (case gg2 => k_is); (case kc2 => k_is); (case ec2 => k_is); (case tc2 => k_is)
    (case hc2 => k_is); (case nf2 => k_is); (case ic2 => k_is); (case ti2 => k_is); (case li2 => k_is); (case ci2 => k_is)
    (case e3 => k_is); (case xc3 => k_is); (case xb3 => first | rfl | k_is); (case sa3 => k_is); (case ga3 => k_is); (case gg3 => k_is)
    (case kc3 => k_is); (case ec3 => k_is); (case tc3 => k_is); (case hc3 => k_is); (case nf3 => k_is); (case ic3 => k_is)
    (case ti3 => k_is); (case li3 => k_is); (case ci3 => k_is); (case e4 => k_is); (case xc4 => k_is); (case xb4 => first | rfl | k_is)
    (case sa4 => k_is); (case ga4 => k_is); (case gg4 => k_is); (case kc4 => k_is); (case ec4 => k_is); (case tc4 => k_is)
    (case hc4 => k_is); (case nf4 => k_is); (case ic4 => k_is); (case ti4 => k_is); (case li4 => k_is); (case ci4 => k_is)
    (case e5 => k_is); (case xc5 => k_is); (case xb5 => first | rfl | k_is); (case sa5 => k_is); (case ga5 => k_is); (case gg5 => k_is)
    (case kc5 => k_is); (case ec5 => k_is); (case tc5 => k_is); (case hc5 => k_is); (case nf5 => k_is); (case ic5 => k_is)
    (case ti5 => k_is); (case li5 => k_is); (case ci5 => k_is)
  case S =>
    intro w H a ns hl only hS
    exact VS.law_sp (by rfl) H a ns hl only hS
