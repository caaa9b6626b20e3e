import PyProof.Rows.All
import Wide.All
import OpenK.AllK
import Wide.FinOn
import HandS.ForMost
import HandS.ForExc
import HandS.Wide
import HandS.WideMore
import HandS.Zip
import HandS.Defaults
import HandS.IsInst
import HandS.WideBits
import HandS.TupMul
import KE.DataEq
import HandS.TupAny
import PyProof.FString5
import PyProof.Rows.RuleB_pow
import HandS.Head0
import HandS.Head1
import HandS.Head2
import HandS.HeadEnd
import HandS.HeadHook1
import HandS.HeadHook2
import HandS.EndBits
import KE.KStateDown
import PySem.Challenge.RW_staystarts_k07_values_sums_and_multiples
set_option Elab.async false
set_option linter.all false
set_option maxRecDepth 100000
set_option maxHeartbeats 4000000
set_option exponentiation.threshold 9000
/-! Mr: plain data for what the defs handle, a state of slots, and one soundness lemma a construct. -/
namespace Mr
open PySem PySem.Spec PyProof.Rows L2

abbrev St := L2.St
/-- what stood in H stands in H' -/
def Sm (H H' : Hp) : Prop := ∀ b o, H b = some o → H' b = some o
/-! ### data -/
inductive D where
  | non
  | bl (b : Bool)
  | int (i : Int)
  | str (x : Str)
  | tup (xs : List D)
  | lst (xs : List D)
  | frz (xs : List D)
  | obj (C : Addr) (ns : List Str) (ds : List D)
  | opq (v : V)
instance : Inhabited D := ⟨.non⟩

mutual
inductive Rep (K : PySem.W.Frag) (H : Hp) : V → D → Prop where
  | non : Rep K H .non .non
  | bl (b : Bool) : Rep K H (.bl b) (.bl b)
  | int (i : Int) : Rep K H (.int i) (.int i)
  | str (x : Str) : Rep K H (.str x) (.str x)
  | tup {a : Addr} {xs : List V} {ds : List D} : SqT K H a xs → Reps K H xs ds → Rep K H (.ref a) (.tup ds)
  | lst {a : Addr} {xs : List V} {ds : List D} : H a = some (.lst xs) → Reps K H xs ds → Rep K H (.ref a) (.lst ds)
  | frz {a : Addr} {xs : List V} {ds : List D} : SqL K H a xs → Reps K H xs ds → Rep K H (.ref a) (.frz ds)
  | obj {a C dx : Addr} {ns : List Str} {vs : List V} {fs : List (Str × V)} {ds : List D} : H a = some (.ins C dx fs) → fs = ns.zip vs → ns.length = vs.length → Reps K H vs ds → Rep K H (.ref a) (.obj C ns ds)
  | opq (v : V) : Rep K H v (.opq v)
inductive Reps (K : PySem.W.Frag) (H : Hp) : List V → List D → Prop where
  | nil : Reps K H [] []
  | cons {v : V} {vs : List V} {d : D} {ds : List D} : Rep K H v d → Reps K H vs ds → Reps K H (v :: vs) (d :: ds)
end

theorem Sm.refl {H : Hp} : Sm H H := fun _ _ h => h
theorem Sm.tr {H H' H'' : Hp} (a : Sm H H') (b : Sm H' H'') : Sm H H'' := fun x o h => b x o (a x o h)
theorem Sm.updN {H : Hp} {p : Addr} {o : HO} (h : H p = none) : Sm H (upd H p o) := fun b x e => by
  rw [upd_ne (ne_of_none e h)]; exact e
theorem Sm.none {F H : Hp} (s : Sm F H) {p : Addr} (h : H p = none) : F p = none := by
  cases e : F p with
  | none => rfl
  | some o => rw [s p o e] at h; cases h
theorem Rd.mono {H H' : Hp} {a : Addr} {u : HO} (s : Sm H H') (r : Rd H a u) : Rd H' a u := by
  rcases r with r | ⟨o, r⟩
  · exact .inl (s _ _ r)
  · exact .inr ⟨o, s _ _ r⟩
theorem SqLm {K : PySem.W.Frag} {H H' : Hp} {a : Addr} {xs : List V} (s : Sm H H') (r : SqL K H a xs) : SqL K H' a xs := by
  rcases r with r | r
  · exact .inl (Rd.mono s r)
  · exact .inr r
theorem SqTm {K : PySem.W.Frag} {H H' : Hp} {a : Addr} {xs : List V} (s : Sm H H') (r : SqT K H a xs) : SqT K H' a xs := by
  rcases r with r | r
  · exact .inl (Rd.mono s r)
  · exact .inr r
mutual
theorem Rep.mono {K : PySem.W.Frag} {H H' : Hp} (s : Sm H H') : ∀ {v : V} {d : D}, Rep K H v d → Rep K H' v d
  | _, _, .non => .non
  | _, _, .bl b => .bl b
  | _, _, .int i => .int i
  | _, _, .str x => .str x
  | _, _, .tup h r => .tup (SqTm s h) (Reps.mono s r)
  | _, _, .lst h r => .lst (s _ _ h) (Reps.mono s r)
  | _, _, .frz h r => .frz (SqLm s h) (Reps.mono s r)
  | _, _, .obj h e l r => .obj (s _ _ h) e l (Reps.mono s r)
  | _, _, .opq v => .opq v
theorem Reps.mono {K : PySem.W.Frag} {H H' : Hp} (s : Sm H H') : ∀ {vs : List V} {ds : List D}, Reps K H vs ds → Reps K H' vs ds
  | _, _, .nil => .nil
  | _, _, .cons h r => .cons (Rep.mono s h) (Reps.mono s r)
end
section
variable {K : PySem.W.Frag} {H : Hp}
theorem Reps.length : ∀ {vs : List V} {ds : List D}, Reps K H vs ds → vs.length = ds.length
  | _, _, .nil => rfl
  | _, _, .cons _ r => by simp [Reps.length r]
theorem Reps.get : ∀ {vs : List V} {ds : List D} (i : Nat) {d : D}, Reps K H vs ds → ds[i]? = some d → ∃ v, vs[i]? = some v ∧ Rep K H v d
  | _, _, _, _, .nil, e => by simp at e
  | _, _, 0, _, .cons h _, e => by simp at e; subst e; exact ⟨_, rfl, h⟩
  | _, _, i + 1, _, .cons _ r, e => by
    obtain ⟨v, h1, h2⟩ := Reps.get i r (by simpa using e)
    exact ⟨v, by simpa using h1, h2⟩
theorem Reps.getV : ∀ {vs : List V} {ds : List D} (i : Nat) {v : V}, Reps K H vs ds → vs[i]? = some v → ∃ d, ds[i]? = some d ∧ Rep K H v d
  | _, _, _, _, .nil, e => by simp at e
  | _, _, 0, _, .cons h _, e => by simp at e; subst e; exact ⟨_, rfl, h⟩
  | _, _, i + 1, _, .cons _ r, e => by
    obtain ⟨v, h1, h2⟩ := Reps.getV i r (by simpa using e)
    exact ⟨v, by simpa using h1, h2⟩
theorem Reps.append : ∀ {xs ys : List V} {ds es : List D}, Reps K H xs ds → Reps K H ys es → Reps K H (xs ++ ys) (ds ++ es)
  | _, _, _, _, .nil, s => s
  | _, _, _, _, .cons r t, s => .cons r (Reps.append t s)
theorem Reps.take : ∀ {xs : List V} {ds : List D} (n : Nat), Reps K H xs ds → Reps K H (xs.take n) (ds.take n)
  | _, _, 0, _ => .nil
  | _, _, _ + 1, .nil => .nil
  | _, _, n + 1, .cons r t => .cons r (Reps.take n t)
theorem Reps.drop : ∀ {xs : List V} {ds : List D} (n : Nat), Reps K H xs ds → Reps K H (xs.drop n) (ds.drop n)
  | _, _, 0, r => r
  | _, _, _ + 1, .nil => .nil
  | _, _, n + 1, .cons r t => Reps.drop n t
theorem Reps.set {v : V} {d : D} (r : Rep K H v d) : ∀ {xs : List V} {ds : List D} (i : Nat), Reps K H xs ds → Reps K H (xs.set i v) (ds.set i d)
  | _, _, _, .nil => .nil
  | _, _, 0, .cons _ t => .cons r t
  | _, _, i + 1, .cons q t => .cons q (Reps.set r i t)
theorem Reps.rep {v : V} {d : D} (r : Rep K H v d) : ∀ n : Nat, Reps K H (List.replicate n v) (List.replicate n d)
  | 0 => .nil
  | n + 1 => .cons r (Reps.rep r n)
theorem Reps.rev : ∀ {xs : List V} {ds : List D}, Reps K H xs ds → Reps K H xs.reverse ds.reverse
  | _, _, .nil => .nil
  | _, _, .cons q t => by
    rw [List.reverse_cons, List.reverse_cons]
    exact Reps.append (Reps.rev t) (.cons q .nil)
theorem Reps.ints : ∀ {vs : List V} {ns : List Int}, Reps K H vs (ns.map D.int) → vs = ns.map V.int
  | _, [], .nil => rfl
  | _, n :: ns, .cons h r => by cases h; rw [Reps.ints r]; rfl
theorem Reps.of_ints : ∀ (ns : List Int), Reps K H (ns.map V.int) (ns.map D.int)
  | [] => .nil
  | n :: ns => .cons (.int n) (Reps.of_ints ns)
end

/-! ### slots -/
/-- what a slot holds: nothing known; a value that stands still; a list, an instance of one's own (p: a parameter handed in to be changed) -/
inductive SV where
  | un
  | val (d : D)
  | own (p : Bool) (xs : List D)
  | ins (p : Bool) (C : Addr) (ns : List Str) (ds : List D)
abbrev Ro := List SV
def SV.isOwn : SV → Bool
  | .own _ _ => true | .ins _ _ _ _ => true | _ => false
def SV.isIo : SV → Bool
  | .own p _ => p | .ins p _ _ _ => p | _ => false

/-- what stood at the entry; the parameters that may be changed; objects that wait -/
structure Ent where
  H0 : Hp
  F0 : Hp
  io : List (Nat × Addr)
  xt : List (Addr × HO)

def SlotOk (K : PySem.W.Frag) (H F : Hp) (s : Option (Option V)) : SV → Prop
  | .un => True
  | .val d => ∃ v, s = some (some v) ∧ Rep K F v d
  | .own _ xs => ∃ a vs, s = some (some (V.ref a)) ∧ H a = some (.lst vs) ∧ F a = none ∧ Reps K F vs xs
  | .ins _ C ns ds => ∃ a dx vs, s = some (some (V.ref a)) ∧ H a = some (.ins C dx (ns.zip vs)) ∧ ns.length = vs.length ∧ F a = none ∧ Reps K F vs ds

structure Stt (K : PySem.W.Frag) (G : Ent) (σ : St) (H F : Hp) (ρ : Ro) : Prop where
  sub : Sm F H
  same : ∀ a o, G.H0 a = some o → (∀ i, (i, a) ∉ G.io) → H a = some o
  ext : Sm G.F0 F
  new : ∀ a o, F a = some o → G.F0 a = some o ∨ G.H0 a = none
  len : ρ.length = σ.length
  at_ : ∀ i, SlotOk K H F (σ[i]?) (ρ.getD i .un)
  dis : ∀ i j a, (ρ.getD i .un).isOwn = true → (ρ.getD j .un).isOwn = true → σ[i]? = some (some (V.ref a)) → σ[j]? = some (some (V.ref a)) → i = j
  fresh : ∀ i a, (ρ.getD i .un).isOwn = true → σ[i]? = some (some (V.ref a)) → G.H0 a = none ∨ (i, a) ∈ G.io
  io : ∀ i a, (i, a) ∈ G.io → σ[i]? = some (some (V.ref a)) ∧ (ρ.getD i .un).isIo = true
  xt : ∀ p ∈ G.xt, H p.1 = some p.2 ∧ F p.1 = none ∧ G.H0 p.1 = none ∧ ∀ i, (ρ.getD i .un).isOwn = true → σ[i]? ≠ some (some (V.ref p.1))
  xtd : (G.xt.map (·.1)).Nodup

structure Ex where
  c : Value
  fs : List (Str × D)
/-- an exception's own dict -/
def ExcAt (K : PySem.W.Frag) (F : Hp) (d : Option Addr) (fs : List (Str × D)) : Prop :=
  (fs = [] ∧ d = none) ∨ ∃ dd vs, d = some dd ∧ F dd = some (.xd ((fs.map (·.1)).zip vs)) ∧ Reps K F vs (fs.map (·.2))

inductive R (α : Type) where
  | ok (a : α) (ρ : Ro)
  | exc (x : Ex) (ρ : Ro)
  | stuck
abbrev M (α : Type) := Ro → R α
def R.bind {α β : Type} (r : R α) (k : α → Ro → R β) : R β := match r with
  | .ok a ρ => k a ρ
  | .exc x ρ => .exc x ρ
  | .stuck => .stuck
/-- what a def or an operation gives -/
inductive FR (α : Type) where
  | ok (a : α)
  | exc (x : Ex)
  | stuck
def FR.lift {α : Type} (r : FR α) (ρ : Ro) : R α := match r with
  | .ok a => .ok a ρ
  | .exc x => .exc x ρ
  | .stuck => .stuck
def FR.bind {α β : Type} (r : FR α) (k : α → FR β) : FR β := match r with
  | .ok a => k a
  | .exc x => .exc x
  | .stuck => .stuck

/-- r is what is wanted: P where it goes through, W of an exception -/
def Good {α : Type} (K : PySem.W.Frag) (G : Ent) (W : WX) (σ : St) (F : Hp) (r : R α) (P : α → Ro → Hp → Hp → Prop) : Prop := match r with
  | .ok a ρ => ∀ H' F', Stt K G σ H' F' ρ → Sm F F' → P a ρ H' F'
  | .exc x ρ => ∀ d H' F', Stt K G σ H' F' ρ → Sm F F' → ExcAt K F' d x.fs → W x.c d σ H'
  | .stuck => False
theorem Good.mono {α : Type} {K : PySem.W.Frag} {G : Ent} {W : WX} {σ : St} {F F1 : Hp} {r : R α} {P : α → Ro → Hp → Hp → Prop} (s : Sm F F1) (h : Good K G W σ F r P) : Good K G W σ F1 r P := by
  cases r with
  | ok a ρ => exact fun H' F' S q => h H' F' S (s.tr q)
  | exc x ρ => exact fun d H' F' S q => h d H' F' S (s.tr q)
  | stuck => exact h
theorem Good.bind {α β : Type} {K : PySem.W.Frag} {G : Ent} {W : WX} {σ : St} {F : Hp} {r : R α} {k : α → Ro → R β} {P : α → Ro → Hp → Hp → Prop} {P' : β → Ro → Hp → Hp → Prop}
    (h : Good K G W σ F (r.bind k) P') (f : ∀ a ρ H' F', Stt K G σ H' F' ρ → Sm F F' → Good K G W σ F' (k a ρ) P' → P a ρ H' F') : Good K G W σ F r P := by
  cases r with
  | ok a ρ => exact fun H' F' S q => f a ρ H' F' S q (Good.mono q h)
  | exc x ρ => exact h
  | stuck => exact h

abbrev PD (K : PySem.W.Frag) (Q : VK) : D → Ro → Hp → Hp → Prop := fun d _ H' F' => ∀ v, Rep K F' v d → Q v H'
abbrev PB (Q : Bool → Hp → Prop) : Bool → Ro → Hp → Hp → Prop := fun b _ H' _ => Q b H'
abbrev PL (K : PySem.W.Frag) (Q : List V → Hp → Prop) : List D → Ro → Hp → Hp → Prop := fun ds _ H' F' => ∀ vs, Reps K F' vs ds → Q vs H'

/-- the expression e does what f says -/
def AE (X : Cx) (W : WX) (e : Expr) (f : M D) : Prop := ∃ t, PE X e t ∧ ∀ G σ H F ρ Q, Stt X.K G σ H F ρ → Good X.K G W σ F (f ρ) (PD X.K Q) → t σ H Q
def AT (X : Cx) (W : WX) (e : Expr) (f : M Bool) : Prop := ∃ t, PT X e t ∧ ∀ G σ H F ρ Q, Stt X.K G σ H F ρ → Good X.K G W σ F (f ρ) (PB Q) → t σ H Q
def AW (X : Cx) (W : WX) (e : Expr) (f : M Bool) : Prop := ∃ t, PW X e t ∧ ∀ G σ H F ρ Q, Stt X.K G σ H F ρ → Good X.K G W σ F (f ρ) (PB Q) → t σ H Q
def AA (X : Cx) (W : WX) (es : List Expr) (f : M (List D)) : Prop := ∃ t, PA X es t ∧ ∀ G σ H F ρ Q, Stt X.K G σ H F ρ → Good X.K G W σ F (f ρ) (PL X.K Q) → t σ H Q

section
variable {K : PySem.W.Frag} {G : Ent} {σ : St} {H F H' F' : Hp} {ρ : Ro}
theorem SlotOk.there {s : Option (Option V)} {sv : SV} (q : SlotOk K H F s sv) (ho : sv.isOwn = true) : ∃ a o, s = some (some (V.ref a)) ∧ H a = some o ∧ F a = none ∧ Mut (some o) := by
  cases sv with
  | un => cases ho
  | val d => cases ho
  | own p xs => obtain ⟨a, vs, e1, e2, e3, _⟩ := q; exact ⟨a, _, e1, e2, e3, trivial⟩
  | ins p C ns ds => obtain ⟨a, dx, vs, e1, e2, _, e3, _⟩ := q; exact ⟨a, _, e1, e2, e3, trivial⟩
theorem SV.own_of_io {sv : SV} (h : sv.isIo = true) : sv.isOwn = true := by
  cases sv with
  | un => cases h
  | val d => cases h
  | own p xs => rfl
  | ins p C ns ds => rfl
/-- a slot as it stands, where the heap has grown -/
theorem SlotOk.grow {s : Option (Option V)} {sv : SV} (q : SlotOk K H F s sv) (h1 : Sm H H') (h3 : Sm F F') (h4 : ∀ a o, F' a = some o → F a = some o ∨ H a = none) : SlotOk K H' F' s sv := by
  have nF : ∀ a o, H a = some o → F a = none → F' a = none := fun a o e1 e2 => by
    cases e : F' a with
    | none => rfl
    | some u =>
      rcases h4 a u e with z | z
      · rw [e2] at z; cases z
      · rw [e1] at z; cases z
  cases sv with
  | un => trivial
  | val d => obtain ⟨v, e, r⟩ := q; exact ⟨v, e, r.mono h3⟩
  | own p xs => obtain ⟨a, vs, e1, e2, e3, r⟩ := q; exact ⟨a, vs, e1, h1 _ _ e2, nF _ _ e2 e3, r.mono h3⟩
  | ins p C ns ds => obtain ⟨a, dx, vs, e1, e2, e0, e3, r⟩ := q; exact ⟨a, dx, vs, e1, h1 _ _ e2, e0, nF _ _ e2 e3, r.mono h3⟩
theorem Stt.alive (S : Stt K G σ H F ρ) {a : Addr} {o : HO} (h : G.H0 a = some o) : ∃ u, H a = some u := by
  by_cases hi : ∃ i, (i, a) ∈ G.io
  · obtain ⟨i, hi⟩ := hi
    obtain ⟨e1, e2⟩ := S.io i a hi
    obtain ⟨b, u, e3, e4, _⟩ := (S.at_ i).there (SV.own_of_io e2)
    rw [e1] at e3; cases e3
    exact ⟨u, e4⟩
  · exact ⟨o, S.same a o h fun i z => hi ⟨i, z⟩⟩
theorem Stt.gone (S : Stt K G σ H F ρ) {a : Addr} (h : H a = none) : G.H0 a = none := by
  cases e : G.H0 a with
  | none => rfl
  | some o => obtain ⟨u, z⟩ := S.alive e; rw [h] at z; cases z
/-- the heap has grown, all that was tracked stands -/
theorem Stt.grow (S : Stt K G σ H F ρ) (h1 : Sm H H') (h2 : Sm F' H') (h3 : Sm F F') (h4 : ∀ a o, F' a = some o → F a = some o ∨ H a = none) : Stt K G σ H' F' ρ := by
  refine ⟨h2, fun a o e n => h1 _ _ (S.same a o e n), S.ext.tr h3, fun a o e => (h4 a o e).elim (S.new a o) fun z => .inr (S.gone z), S.len, fun i => (S.at_ i).grow h1 h3 h4, S.dis, S.fresh, S.io, fun p hp => ?_, S.xtd⟩
  obtain ⟨e1, e2, e3, e4⟩ := S.xt p hp
  refine ⟨h1 _ _ e1, ?_, e3, e4⟩
  cases e : F' p.1 with
  | none => rfl
  | some u =>
    rcases h4 p.1 u e with z | z
    · rw [e2] at z; cases z
    · rw [e1] at z; cases z
/-- a new object that stands still -/
theorem Stt.alloc (S : Stt K G σ H F ρ) {p : Addr} {o : HO} (hp : H p = none) : Stt K G σ (upd H p o) (upd F p o) ρ := by
  have fp : F p = none := S.sub.none hp
  refine S.grow (Sm.updN hp) (fun a u h => ?_) (Sm.updN fp) fun a u h => ?_
  · by_cases e : a = p
    · subst e; rw [upd_same] at h ⊢; exact h
    · rw [upd_ne e] at h ⊢; exact S.sub a u h
  · by_cases e : a = p
    · subst e; exact .inr hp
    · rw [upd_ne e] at h; exact .inl h
theorem Stt.allocF (S : Stt K G σ H F ρ) {p : Addr} {o : HO} (hp : H p = none) : Sm F (upd F p o) := Sm.updN (S.sub.none hp)

theorem getD_set {ρ : Ro} {i j : Nat} {x : SV} : (ρ.set i x).getD j .un = if i = j ∧ j < ρ.length then x else ρ.getD j .un := by
  rw [List.getD_eq_getElem?_getD, List.getD_eq_getElem?_getD, List.getElem?_set]
  by_cases h : i = j
  · subst h
    by_cases l : i < ρ.length
    · simp [l]
    · simp [l]
  · simp [h]
theorem get_setσ {σ : St} {i j : Nat} {x : Option V} : (σ.set i x)[j]? = if i = j ∧ j < σ.length then some x else σ[j]? := by
  rw [List.getElem?_set]
  by_cases h : i = j
  · subst h
    by_cases l : i < σ.length
    · simp [l]
    · simp [l]
  · simp [h]
/-- a slot is stored to -/
theorem Stt.set (S : Stt K G σ H F ρ) {i : Nat} {v : Option V} {sv : SV} (hio : (ρ.getD i .un).isIo = false) (q : SlotOk K H F (some v) sv) (hp : sv.isIo = false)
    (hn : sv.isOwn = true → ∀ a, v = some (V.ref a) → G.H0 a = none ∧ (∀ j, (ρ.getD j .un).isOwn = true → σ[j]? ≠ some (some (V.ref a))) ∧ ∀ p ∈ G.xt, p.1 ≠ a) : Stt K G (σ.set i v) H F (ρ.set i sv) := by
  have noio : ∀ a, (i, a) ∉ G.io := fun a z => by
    have := (S.io i a z).2
    rw [hio] at this; cases this
  refine ⟨S.sub, S.same, S.ext, S.new, by simp [S.len], fun j => ?_, fun j k a h1 h2 h3 h4 => ?_, fun j a h1 h2 => ?_, fun j a hj => ?_, fun p hp => ?_, S.xtd⟩
  · rw [getD_set, get_setσ, S.len]
    by_cases c : i = j ∧ j < σ.length
    · rw [if_pos c, if_pos c]; exact q
    · rw [if_neg c, if_neg c]; exact S.at_ j
  · rw [getD_set, S.len] at h1 h2
    rw [get_setσ] at h3 h4
    by_cases c : i = j ∧ j < σ.length
    · rw [if_pos c] at h1 h3
      by_cases c' : i = k ∧ k < σ.length
      · exact c.1.symm.trans c'.1
      · rw [if_neg c'] at h2 h4
        exact absurd h4 ((hn h1 a (Option.some.inj h3)).2.1 k h2)
    · rw [if_neg c] at h1 h3
      by_cases c' : i = k ∧ k < σ.length
      · rw [if_pos c'] at h2 h4
        exact absurd h3 ((hn h2 a (Option.some.inj h4)).2.1 j h1)
      · rw [if_neg c'] at h2 h4
        exact S.dis j k a h1 h2 h3 h4
  · rw [getD_set, S.len] at h1
    rw [get_setσ] at h2
    by_cases c : i = j ∧ j < σ.length
    · rw [if_pos c] at h1 h2
      exact .inl (hn h1 a (Option.some.inj h2)).1
    · rw [if_neg c] at h1 h2
      exact S.fresh j a h1 h2
  · have ne : i ≠ j := fun e => noio a (e ▸ hj)
    obtain ⟨e1, e2⟩ := S.io j a hj
    rw [getD_set, get_setσ, if_neg (fun c => ne c.1), if_neg (fun c => ne c.1)]
    exact ⟨e1, e2⟩
  · obtain ⟨e1, e2, e3, e4⟩ := S.xt p hp
    refine ⟨e1, e2, e3, fun j h1 h2 => ?_⟩
    rw [getD_set, S.len] at h1
    rw [get_setσ] at h2
    by_cases c : i = j ∧ j < σ.length
    · rw [if_pos c] at h1 h2
      exact (hn h1 p.1 (Option.some.inj h2)).2.2 p hp rfl
    · rw [if_neg c] at h1 h2
      exact e4 j h1 h2
theorem Stt.setVal (S : Stt K G σ H F ρ) {i : Nat} {v : V} {d : D} (hio : (ρ.getD i .un).isIo = false) (r : Rep K F v d) : Stt K G (σ.set i (some v)) H F (ρ.set i (.val d)) :=
  S.set hio ⟨v, rfl, r⟩ rfl fun h => by cases h
/-- a slot is forgotten (its value may be any) -/
theorem Stt.drop (S : Stt K G σ H F ρ) {i : Nat} {v : Option V} (hio : (ρ.getD i .un).isIo = false) : Stt K G (σ.set i v) H F (ρ.set i .un) :=
  S.set hio trivial rfl fun h => by cases h
/-- a list of one's own is let go: it stands still from now on -/
theorem Stt.freeze (S : Stt K G σ H F ρ) {i : Nat} {xs : List D} (hi : ρ.getD i .un = .own false xs) : ∃ a F', σ[i]? = some (some (V.ref a)) ∧ Stt K G σ H F' (ρ.set i (.val (.lst xs))) ∧ Sm F F' ∧ Rep K F' (.ref a) (.lst xs) := by
  have q := S.at_ i
  rw [hi] at q
  obtain ⟨a, vs, e1, e2, e3, r⟩ := q
  have il : i < ρ.length := by
    rw [S.len]
    exact (List.getElem?_eq_some_iff.mp e1).1
  have sF : Sm F (upd F a (.lst vs)) := Sm.updN e3
  have hio : (ρ.getD i .un).isIo = false := by rw [hi]; rfl
  have noio : ∀ a, (i, a) ∉ G.io := fun a z => by
    have := (S.io i a z).2
    rw [hio] at this; cases this
  have own : (ρ.getD i .un).isOwn = true := by rw [hi]; rfl
  have h0 : G.H0 a = none := (S.fresh i a own e1).elim id fun z => absurd z (noio a)
  have rl : Rep K (upd F a (.lst vs)) (.ref a) (.lst xs) := .lst upd_same (r.mono sF)
  have other : ∀ j b, i ≠ j → (ρ.getD j .un).isOwn = true → σ[j]? = some (some (V.ref b)) → b ≠ a := fun j b ne o e z => ne (S.dis i j a own o e1 (z ▸ e))
  refine ⟨a, upd F a (.lst vs), e1, ⟨fun b u h => ?_, S.same, S.ext.tr sF, fun b u h => ?_, by simp [S.len], fun j => ?_, fun j k b h1 h2 => ?_, fun j b h1 h2 => ?_, fun j b hj => ?_, fun p hp => ?_, S.xtd⟩, sF, rl⟩
  · by_cases e : b = a
    · subst e; rw [upd_same] at h; cases h; exact e2
    · rw [upd_ne e] at h; exact S.sub b u h
  · by_cases e : b = a
    · subst e; exact .inr h0
    · rw [upd_ne e] at h; exact S.new b u h
  · rw [getD_set]
    by_cases c : i = j ∧ j < ρ.length
    · rw [if_pos c, ← c.1]; exact ⟨_, e1, rl⟩
    · rw [if_neg c]
      have ne : i ≠ j := fun e => c ⟨e, e ▸ il⟩
      have q := S.at_ j
      cases hs : ρ.getD j .un with
      | un => trivial
      | val d => rw [hs] at q; obtain ⟨v, e, r⟩ := q; exact ⟨v, e, r.mono sF⟩
      | own p ys =>
        have o := fun b => other j b ne
        rw [hs] at q o
        obtain ⟨b, ws, f1, f2, f3, r'⟩ := q
        exact ⟨b, ws, f1, f2, by rw [upd_ne (o b rfl f1)]; exact f3, r'.mono sF⟩
      | ins p C ns ds =>
        have o := fun b => other j b ne
        rw [hs] at q o
        obtain ⟨b, dx, ws, f1, f2, f0, f3, r'⟩ := q
        exact ⟨b, dx, ws, f1, f2, f0, by rw [upd_ne (o b rfl f1)]; exact f3, r'.mono sF⟩
  · rw [getD_set] at h1 h2
    by_cases c : i = j ∧ j < ρ.length
    · rw [if_pos c] at h1; cases h1
    · rw [if_neg c] at h1
      by_cases c' : i = k ∧ k < ρ.length
      · rw [if_pos c'] at h2; cases h2
      · rw [if_neg c'] at h2; exact S.dis j k b h1 h2
  · rw [getD_set] at h1
    by_cases c : i = j ∧ j < ρ.length
    · rw [if_pos c] at h1; cases h1
    · rw [if_neg c] at h1; exact S.fresh j b h1 h2
  · have ne : i ≠ j := fun e => noio b (e ▸ hj)
    obtain ⟨e1, e2⟩ := S.io j b hj
    rw [getD_set, if_neg (fun c => ne c.1)]
    exact ⟨e1, e2⟩
  · obtain ⟨f1, f2, f3, f4⟩ := S.xt p hp
    have pa : p.1 ≠ a := fun e => f4 i own (e ▸ e1)
    refine ⟨f1, by rw [upd_ne pa]; exact f2, f3, fun j h1 h2 => ?_⟩
    rw [getD_set] at h1
    by_cases c : i = j ∧ j < ρ.length
    · rw [if_pos c] at h1; cases h1
    · rw [if_neg c] at h1; exact f4 j h1 h2
/-- what is one's own at slot i is changed in place (by oneself or by a callee); the heap may have grown beside -/
theorem Stt.change (S : Stt K G σ H F ρ) {i : Nat} {a : Addr} {sv : SV} (ho : (ρ.getD i .un).isOwn = true) (e1 : σ[i]? = some (some (V.ref a)))
    (h1 : ∀ b o, b ≠ a → H b = some o → H' b = some o) (h2 : Sm F' H') (h3 : Sm F F') (h4 : ∀ b o, F' b = some o → F b = some o ∨ H b = none)
    (q : SlotOk K H' F' (some (some (V.ref a))) sv) (hso : sv.isOwn = true) (hsi : sv.isIo = (ρ.getD i .un).isIo) : Stt K G σ H' F' (ρ.set i sv) := by
  have il : i < ρ.length := by
    rw [S.len]
    exact (List.getElem?_eq_some_iff.mp e1).1
  obtain ⟨a', oa, ea, ha, fa, _⟩ := (S.at_ i).there ho
  rw [e1] at ea; cases ea
  have other : ∀ j b, i ≠ j → (ρ.getD j .un).isOwn = true → σ[j]? = some (some (V.ref b)) → b ≠ a := fun j b ne o e z => ne (S.dis i j a ho o e1 (z ▸ e))
  have nF : ∀ b o, H b = some o → F b = none → F' b = none := fun b o e1 e2 => by
    cases e : F' b with
    | none => rfl
    | some u =>
      rcases h4 b u e with z | z
      · rw [e2] at z; cases z
      · rw [e1] at z; cases z
  refine ⟨h2, fun b o e n => ?_, S.ext.tr h3, fun b o e => (h4 b o e).elim (S.new b o) fun z => .inr (S.gone z), by simp [S.len], fun j => ?_, fun j k b k1 k2 => ?_, fun j b k1 k2 => ?_, fun j b hj => ?_, fun p hp => ?_, S.xtd⟩
  · by_cases eb : b = a
    · subst eb
      rcases S.fresh i b ho e1 with z | z
      · rw [z] at e; cases e
      · exact absurd z (n i)
    · exact h1 b o eb (S.same b o e n)
  · rw [getD_set]
    by_cases c : i = j ∧ j < ρ.length
    · rw [if_pos c, ← c.1, e1]; exact q
    · rw [if_neg c]
      have ne : i ≠ j := fun e => c ⟨e, e ▸ il⟩
      have q := S.at_ j
      cases hs : ρ.getD j .un with
      | un => trivial
      | val d => rw [hs] at q; obtain ⟨v, e, r⟩ := q; exact ⟨v, e, r.mono h3⟩
      | own p ys =>
        have o := fun b => other j b ne
        rw [hs] at q o
        obtain ⟨b, ws, f1, f2, f3, r'⟩ := q
        exact ⟨b, ws, f1, h1 _ _ (o b rfl f1) f2, nF _ _ f2 f3, r'.mono h3⟩
      | ins p C ns ds =>
        have o := fun b => other j b ne
        rw [hs] at q o
        obtain ⟨b, dx, ws, f1, f2, f0, f3, r'⟩ := q
        exact ⟨b, dx, ws, f1, h1 _ _ (o b rfl f1) f2, f0, nF _ _ f2 f3, r'.mono h3⟩
  · rw [getD_set] at k1 k2
    have p1 : (ρ.getD j .un).isOwn = true := by
      by_cases c : i = j ∧ j < ρ.length
      · rw [← c.1]; exact ho
      · rw [if_neg c] at k1; exact k1
    have p2 : (ρ.getD k .un).isOwn = true := by
      by_cases c : i = k ∧ k < ρ.length
      · rw [← c.1]; exact ho
      · rw [if_neg c] at k2; exact k2
    exact S.dis j k b p1 p2
  · have p1 : (ρ.getD j .un).isOwn = true := by
      rw [getD_set] at k1
      by_cases c : i = j ∧ j < ρ.length
      · rw [← c.1]; exact ho
      · rw [if_neg c] at k1; exact k1
    exact S.fresh j b p1 k2
  · obtain ⟨f1, f2⟩ := S.io j b hj
    refine ⟨f1, ?_⟩
    rw [getD_set]
    by_cases c : i = j ∧ j < ρ.length
    · rw [if_pos c, hsi, c.1]; exact f2
    · rw [if_neg c]; exact f2
  · obtain ⟨f1, f2, f3, f4⟩ := S.xt p hp
    have pa : p.1 ≠ a := fun e => f4 i ho (e ▸ e1)
    refine ⟨h1 _ _ pa f1, nF _ _ f1 f2, f3, fun j k1 => ?_⟩
    have p1 : (ρ.getD j .un).isOwn = true := by
      rw [getD_set] at k1
      by_cases c : i = j ∧ j < ρ.length
      · rw [← c.1]; exact ho
      · rw [if_neg c] at k1; exact k1
    exact f4 j p1
end

section
variable {K : PySem.W.Frag} {H0 F0 : Hp} {io : List (Nat × Addr)} {xt : List (Addr × HO)} {σ : St} {H F : Hp} {ρ : Ro}
/-- a new object that waits -/
theorem Stt.xtNew (S : Stt K ⟨H0, F0, io, xt⟩ σ H F ρ) {a : Addr} {o : HO} (ha : H a = none) : Stt K ⟨H0, F0, io, (a, o) :: xt⟩ σ (upd H a o) F ρ := by
  have fa := S.sub.none ha
  have S1 : Stt K ⟨H0, F0, io, xt⟩ σ (upd H a o) F ρ := S.grow (Sm.updN ha) (S.sub.tr (Sm.updN ha)) Sm.refl fun _ _ e => .inl e
  refine ⟨S1.sub, S1.same, S1.ext, S1.new, S1.len, S1.at_, S1.dis, S1.fresh, S1.io, fun p hp => ?_, ?_⟩
  · rcases List.mem_cons.mp hp with rfl | hp
    · refine ⟨upd_same, fa, S.gone ha, fun i h1 h2 => ?_⟩
      obtain ⟨b, u, e1, e2, _⟩ := (S.at_ i).there h1
      rw [h2] at e1; cases e1
      rw [ha] at e2; cases e2
    · exact S1.xt p hp
  · refine List.nodup_cons.mpr ⟨fun hm => ?_, S.xtd⟩
    obtain ⟨p, hp, e⟩ := List.mem_map.mp hm
    have := (S.xt p hp).1
    rw [e, ha] at this; cases this
/-- an object that has come, of one's own -/
theorem Stt.xtAdd {H1 F1 : Hp} (S : Stt K ⟨H0, F0, io, xt⟩ σ H1 F1 ρ) {a : Addr} {o : HO} (h1 : Sm H1 H) (h2 : Sm F H) (h3 : Sm F1 F) (h4 : ∀ b u, F b = some u → F1 b = some u ∨ H1 b = none) (ha : H a = some o) (fa : F a = none) (na : H1 a = none) : Stt K ⟨H0, F0, io, (a, o) :: xt⟩ σ H F ρ := by
  have S1 := S.grow h1 h2 h3 h4
  refine ⟨S1.sub, S1.same, S1.ext, S1.new, S1.len, S1.at_, S1.dis, S1.fresh, S1.io, fun p hp => ?_, ?_⟩
  · rcases List.mem_cons.mp hp with rfl | hp
    · refine ⟨ha, fa, S.gone na, fun i h1 h2 => ?_⟩
      obtain ⟨b, u, e1, e2, _⟩ := (S.at_ i).there h1
      rw [h2] at e1; cases e1
      rw [na] at e2; cases e2
    · exact S1.xt p hp
  · refine List.nodup_cons.mpr ⟨fun hm => ?_, S.xtd⟩
    obtain ⟨p, hp, e⟩ := List.mem_map.mp hm
    have := (S.xt p hp).1
    rw [e, na] at this; cases this
/-- it is changed -/
theorem Stt.xtUpd {a : Addr} {o o' : HO} (S : Stt K ⟨H0, F0, io, (a, o) :: xt⟩ σ H F ρ) : Stt K ⟨H0, F0, io, (a, o') :: xt⟩ σ (upd H a o') F ρ := by
  obtain ⟨e1, e2, e3, e4⟩ := S.xt (a, o) (List.mem_cons_self ..)
  have nd := List.nodup_cons.mp S.xtd
  have oth : ∀ i, (ρ.getD i .un).isOwn = true → ∀ b, σ[i]? = some (some (V.ref b)) → b ≠ a := fun i h b hb e => e4 i h (e ▸ hb)
  refine ⟨fun b u h => ?_, fun b u h n => ?_, S.ext, S.new, S.len, fun i => ?_, S.dis, S.fresh, S.io, fun p hp => ?_, S.xtd⟩
  · rw [upd_ne (fun e => by subst e; rw [e2] at h; cases h)]; exact S.sub b u h
  · rw [upd_ne (fun e => by subst e; rw [e3] at h; cases h)]; exact S.same b u h n
  · have q := S.at_ i
    have ot := oth i
    cases hs : ρ.getD i .un with
    | un => trivial
    | val d => rw [hs] at q; exact q
    | own p ys =>
      rw [hs] at q ot
      obtain ⟨b, ws, f1, f2, f3, r⟩ := q
      exact ⟨b, ws, f1, by rw [upd_ne (ot rfl b f1)]; exact f2, f3, r⟩
    | ins p C ns ds =>
      rw [hs] at q ot
      obtain ⟨b, dx, ws, f1, f2, f0, f3, r⟩ := q
      exact ⟨b, dx, ws, f1, by rw [upd_ne (ot rfl b f1)]; exact f2, f0, f3, r⟩
  · rcases List.mem_cons.mp hp with rfl | hp
    · exact ⟨upd_same, e2, e3, e4⟩
    · obtain ⟨f1, f2, f3, f4⟩ := S.xt p (List.mem_cons_of_mem _ hp)
      have ne : p.1 ≠ a := fun e => nd.1 (List.mem_map.mpr ⟨p, hp, e⟩)
      exact ⟨by rw [upd_ne ne]; exact f1, f2, f3, f4⟩
/-- it stands still from now on -/
theorem Stt.xtFreeze {a : Addr} {o : HO} (S : Stt K ⟨H0, F0, io, (a, o) :: xt⟩ σ H F ρ) : Stt K ⟨H0, F0, io, xt⟩ σ H (upd F a o) ρ ∧ Sm F (upd F a o) := by
  obtain ⟨e1, e2, e3, e4⟩ := S.xt (a, o) (List.mem_cons_self ..)
  have nd := List.nodup_cons.mp S.xtd
  have sF : Sm F (upd F a o) := Sm.updN e2
  have oth : ∀ i, (ρ.getD i .un).isOwn = true → ∀ b, σ[i]? = some (some (V.ref b)) → b ≠ a := fun i h b hb e => e4 i h (e ▸ hb)
  refine ⟨⟨fun b u h => ?_, S.same, S.ext.tr sF, fun b u h => ?_, S.len, fun i => ?_, S.dis, S.fresh, S.io, fun p hp => ?_, nd.2⟩, sF⟩
  · by_cases e : b = a
    · subst e; rw [upd_same] at h; cases h; exact e1
    · rw [upd_ne e] at h; exact S.sub b u h
  · by_cases e : b = a
    · subst e; exact .inr e3
    · rw [upd_ne e] at h; exact S.new b u h
  · have q := S.at_ i
    have ot := oth i
    cases hs : ρ.getD i .un with
    | un => trivial
    | val d => rw [hs] at q; obtain ⟨v, e, r⟩ := q; exact ⟨v, e, r.mono sF⟩
    | own p ys =>
      rw [hs] at q ot
      obtain ⟨b, ws, f1, f2, f3, r⟩ := q
      exact ⟨b, ws, f1, f2, by rw [upd_ne (ot rfl b f1)]; exact f3, r.mono sF⟩
    | ins p C ns ds =>
      rw [hs] at q ot
      obtain ⟨b, dx, ws, f1, f2, f0, f3, r⟩ := q
      exact ⟨b, dx, ws, f1, f2, f0, by rw [upd_ne (ot rfl b f1)]; exact f3, r.mono sF⟩
  · obtain ⟨f1, f2, f3, f4⟩ := S.xt p (List.mem_cons_of_mem _ hp)
    have ne : p.1 ≠ a := fun e => nd.1 (List.mem_map.mpr ⟨p, hp, e⟩)
    exact ⟨f1, by rw [upd_ne ne]; exact f2, f3, f4⟩
/-- it comes to a slot -/
theorem Stt.xtSlot {a : Addr} {o : HO} {i : Nat} {sv : SV} (S : Stt K ⟨H0, F0, io, (a, o) :: xt⟩ σ H F ρ) (hio : (ρ.getD i .un).isIo = false) (q : SlotOk K H F (some (some (V.ref a))) sv) (hp : sv.isIo = false) :
    Stt K ⟨H0, F0, io, xt⟩ (σ.set i (some (V.ref a))) H F (ρ.set i sv) := by
  obtain ⟨e1, e2, e3, e4⟩ := S.xt (a, o) (List.mem_cons_self ..)
  have nd := List.nodup_cons.mp S.xtd
  have S0 : Stt K ⟨H0, F0, io, xt⟩ σ H F ρ := ⟨S.sub, S.same, S.ext, S.new, S.len, S.at_, S.dis, S.fresh, S.io, fun p hp => S.xt p (List.mem_cons_of_mem _ hp), nd.2⟩
  refine S0.set hio q hp fun _ b hb => ?_
  cases hb
  exact ⟨e3, e4, fun p hp e => nd.1 (List.mem_map.mpr ⟨p, hp, e⟩)⟩
theorem Stt.xtDrop {a : Addr} {o : HO} (S : Stt K ⟨H0, F0, io, (a, o) :: xt⟩ σ H F ρ) : Stt K ⟨H0, F0, io, xt⟩ σ H F ρ :=
  ⟨S.sub, S.same, S.ext, S.new, S.len, S.at_, S.dis, S.fresh, S.io, fun p hp => S.xt p (List.mem_cons_of_mem _ hp), (List.nodup_cons.mp S.xtd).2⟩
end

/-! ### what a def promises -/
/-- what is known behind a call: all that was tracked stands -/
structure Aft (H F H' F' : Hp) : Prop where
  h : Sm H H'
  sub : Sm F' H'
  f : Sm F F'
  new : ∀ a o, F' a = some o → F a = some o ∨ H a = none
def GoodF (K : PySem.W.Frag) (H F : Hp) (r : FR D) (Q : VK) (E : XK) : Prop := match r with
  | .ok d => ∀ v H' F', Aft H F H' F' → Rep K F' v d → Q v H'
  | .exc x => ∀ d H' F', Aft H F H' F' → ExcAt K F' d x.fs → E x.c d H'
  | .stuck => False
/-- a def of n values -/
def PSp (K : PySem.W.Frag) (n : Nat) (m : List D → FR D) : Sp := fun vs H Q E => vs.length = n ∧ ∃ F ds, Sm F H ∧ Reps K F vs ds ∧ GoodF K H F (m ds) Q E
/-- a def that gives a new list -/
def GoodN (K : PySem.W.Frag) (H F : Hp) (r : FR (List D)) (Q : VK) (E : XK) : Prop := match r with
  | .ok xs => ∀ a ws H' F', Aft H F H' F' → H' a = some (.lst ws) ∧ F' a = none ∧ H a = none → Reps K F' ws xs → Q (.ref a) H'
  | .exc x => ∀ d H' F', Aft H F H' F' → ExcAt K F' d x.fs → E x.c d H'
  | .stuck => False
def NSp (K : PySem.W.Frag) (n : Nat) (m : List D → FR (List D)) : Sp := fun vs H Q E => vs.length = n ∧ ∃ F ds, Sm F H ∧ Reps K F vs ds ∧ GoodN K H F (m ds) Q E
/-- .. behind a call that may change the object at a -/
structure AftIo (K : PySem.W.Frag) (a : Addr) (sv : SV) (H F H' F' : Hp) : Prop where
  h : ∀ b o, b ≠ a → H b = some o → H' b = some o
  sub : Sm F' H'
  f : Sm F F'
  new : ∀ b o, F' b = some o → F b = some o ∨ H b = none
  at_ : SlotOk K H' F' (some (some (V.ref a))) sv
  own : sv.isIo = true
inductive IR where
  | ok (d : D) (sv : SV)
  | exc (x : Ex) (sv : SV)
  | stuck
def GoodI (K : PySem.W.Frag) (a : Addr) (H F : Hp) (r : IR) (Q : VK) (E : XK) : Prop := match r with
  | .ok d sv => ∀ v H' F', AftIo K a sv H F H' F' → Rep K F' v d → Q v H'
  | .exc x sv => ∀ d H' F', AftIo K a sv H F H' F' → ExcAt K F' d x.fs → E x.c d H'
  | .stuck => False
/-- a def of n values, the first of which it may change -/
def ISp (K : PySem.W.Frag) (n : Nat) (m : SV → List D → IR) : Sp := fun vs H Q E => vs.length = n + 1 ∧ ∃ F a ws sv ds, vs = V.ref a :: ws ∧ Sm F H ∧ SlotOk K H F (some (some (V.ref a))) sv ∧ sv.isIo = true ∧ Reps K F ws ds ∧ GoodI K a H F (m sv ds) Q E

/-! ### blocks -/
inductive Fl where
  | nx
  | rt (d : D)
  | rn (ds : List D)
  | bk
  | ct
def GoodS (K : PySem.W.Frag) (G : Ent) (W : WX) (F : Hp) (r : R Fl) (Dn : Ends) : Prop := match r with
  | .ok .nx ρ => ∀ σ' H' F', Stt K G σ' H' F' ρ → Sm F F' → Dn.nx σ' H'
  | .ok (.rt d) ρ => ∀ v σ' H' F', Stt K G σ' H' F' ρ → Sm F F' → Rep K F' v d → Dn.rt v H'
  | .ok (.rn ds) ρ => ∀ a vs σ' H' F', Stt K ⟨G.H0, G.F0, G.io, (a, .lst vs) :: G.xt⟩ σ' H' F' ρ → Sm F F' → Reps K F' vs ds → Dn.rt (.ref a) H'
  | .ok .bk ρ => ∀ σ' H' F', Stt K G σ' H' F' ρ → Sm F F' → Dn.bk σ' H'
  | .ok .ct ρ => ∀ σ' H' F', Stt K G σ' H' F' ρ → Sm F F' → Dn.ct σ' H'
  | .exc x ρ => ∀ d σ' H' F', Stt K G σ' H' F' ρ → Sm F F' → ExcAt K F' d x.fs → W x.c d σ' H'
  | .stuck => False
theorem GoodS.mono {K : PySem.W.Frag} {G : Ent} {W : WX} {F F1 : Hp} {r : R Fl} {Dn : Ends} (s : Sm F F1) (h : GoodS K G W F r Dn) : GoodS K G W F1 r Dn := by
  cases r with
  | ok a ρ =>
    cases a with
    | nx => exact fun σ' H' F' S q => h σ' H' F' S (s.tr q)
    | rt d => exact fun v σ' H' F' S q => h v σ' H' F' S (s.tr q)
    | rn ds => exact fun a vs σ' H' F' S q => h a vs σ' H' F' S (s.tr q)
    | bk => exact fun σ' H' F' S q => h σ' H' F' S (s.tr q)
    | ct => exact fun σ' H' F' S q => h σ' H' F' S (s.tr q)
  | exc x ρ => exact fun d σ' H' F' S q => h d σ' H' F' S (s.tr q)
  | stuck => exact h
/-- an expression's part of a statement -/
theorem GoodS.bind {α : Type} {K : PySem.W.Frag} {G : Ent} {W : WX} {σ : St} {F : Hp} {r : R α} {k : α → Ro → R Fl} {P : α → Ro → Hp → Hp → Prop} {Dn : Ends}
    (h : GoodS K G W F (r.bind k) Dn) (f : ∀ a ρ H' F', Stt K G σ H' F' ρ → Sm F F' → GoodS K G W F' (k a ρ) Dn → P a ρ H' F') : Good K G W σ F r P := by
  cases r with
  | ok a ρ => exact fun H' F' S q => f a ρ H' F' S q (GoodS.mono q h)
  | exc x ρ => exact fun d H' F' S q e => h d σ H' F' S q e
  | stuck => exact h
def AS (X : Cx) (W : WX) (st : Stmt) (f : M Fl) : Prop := ∃ t, PS X st t ∧ ∀ G σ H F ρ Dn, Stt X.K G σ H F ρ → GoodS X.K G W F (f ρ) Dn → t Dn σ H
def AB (X : Cx) (W : WX) (st : List Stmt) (f : M Fl) : Prop := ∃ t, PSs X st t ∧ ∀ G σ H F ρ Dn, Stt X.K G σ H F ρ → GoodS X.K G W F (f ρ) Dn → t Dn σ H

/-- a def's run over values -/
def runF (n : Nat) (g : M Fl) (ds : List D) : FR D := match g (ds.map .val ++ List.replicate (n - ds.length) .un) with
  | .ok .nx _ => .ok .non
  | .ok (.rt d) _ => .ok d
  | .exc x _ => .exc x
  | _ => .stuck
/-- .. of a def that gives a new list -/
def runN (n : Nat) (g : M Fl) (ds : List D) : FR (List D) := match g (ds.map .val ++ List.replicate (n - ds.length) .un) with
  | .ok (.rn xs) _ => .ok xs
  | .exc x _ => .exc x
  | _ => .stuck
def runI (n : Nat) (g : M Fl) (sv : SV) (ds : List D) : IR := match g (sv :: ds.map .val ++ List.replicate (n - (ds.length + 1)) .un) with
  | .ok .nx ρ => .ok .non (ρ.getD 0 .un)
  | .ok (.rt d) ρ => .ok d (ρ.getD 0 .un)
  | .exc x ρ => .exc x (ρ.getD 0 .un)
  | _ => .stuck
section
variable {K : PySem.W.Frag}
theorem getD_app {α : Type} {l l' : List α} {i : Nat} {x : α} : (l ++ l').getD i x = if i < l.length then l.getD i x else l'.getD (i - l.length) x := by
  rw [List.getD_eq_getElem?_getD, List.getElem?_append]
  split <;> simp [List.getD_eq_getElem?_getD]
theorem get_app {α : Type} {l l' : List α} {i : Nat} : (l ++ l')[i]? = if i < l.length then l[i]? else l'[i - l.length]? := List.getElem?_append
theorem getD_rep {n i : Nat} : (List.replicate n SV.un).getD i .un = .un := by
  rw [List.getD_eq_getElem?_getD, List.getElem?_replicate]
  split <;> rfl
theorem stt_start {H F : Hp} {N : List Str} {vs : List V} {ds : List D} (s : Sm F H) (r : Reps K F vs ds) : Stt K ⟨H, F, [], []⟩ (L2.start N vs) H F (ds.map .val ++ List.replicate (N.length - ds.length) SV.un) := by
  have le := r.length
  have noOwn : ∀ i, ((ds.map SV.val ++ List.replicate (N.length - ds.length) SV.un).getD i .un).isOwn = false := fun i => by
    rw [getD_app]
    split
    · rename_i h
      rw [List.length_map] at h
      rw [List.getD_eq_getElem?_getD, List.getElem?_map, List.getElem?_eq_getElem h]; rfl
    · rw [getD_rep]; rfl
  refine ⟨s, fun a o h _ => h, Sm.refl, fun a o h => .inl h, by simp [L2.start, le], fun i => ?_, fun i j a h => ?_, fun i a h => ?_, fun i a h => by simp at h, fun p h => by simp at h, .nil⟩
  · unfold L2.start
    rw [getD_app, get_app, List.length_map, List.length_map, le]
    by_cases h : i < ds.length
    · rw [if_pos h, if_pos h]
      obtain ⟨v, e, q⟩ := r.get i (List.getElem?_eq_getElem h)
      rw [List.getD_eq_getElem?_getD, List.getElem?_map, List.getElem?_map, List.getElem?_eq_getElem h, e]
      exact ⟨v, rfl, q⟩
    · rw [if_neg h, if_neg h, getD_rep]; trivial
  · rw [noOwn] at h; cases h
  · rw [noOwn] at h; cases h
theorem stt_startI {H F : Hp} {N : List Str} {a : Addr} {vs : List V} {sv : SV} {ds : List D} (s : Sm F H) (q : SlotOk K H F (some (some (V.ref a))) sv) (hio : sv.isIo = true) (r : Reps K F vs ds) :
    Stt K ⟨H, F, [(0, a)], []⟩ (L2.start N (V.ref a :: vs)) H F (sv :: ds.map .val ++ List.replicate (N.length - (ds.length + 1)) SV.un) := by
  have le := r.length
  have noOwn : ∀ i, ((sv :: ds.map SV.val ++ List.replicate (N.length - (ds.length + 1)) SV.un).getD (i + 1) .un).isOwn = false := fun i => by
    show ((ds.map SV.val ++ List.replicate (N.length - (ds.length + 1)) SV.un).getD i .un).isOwn = false
    rw [getD_app]
    split
    · rename_i h
      rw [List.length_map] at h
      rw [List.getD_eq_getElem?_getD, List.getElem?_map, List.getElem?_eq_getElem h]; rfl
    · rw [getD_rep]; rfl
  refine ⟨s, fun a o h _ => h, Sm.refl, fun a o h => .inl h, by simp [L2.start, le], fun i => ?_, fun i j b h h' e1 e2 => ?_, fun i b h e => ?_, fun i b h => ?_, fun p h => by simp at h, .nil⟩
  · cases i with
    | zero => exact q
    | succ i =>
      show SlotOk K H F ((vs.map some ++ List.replicate (N.length - (vs.length + 1)) (none : Option V))[i]?) ((ds.map SV.val ++ List.replicate (N.length - (ds.length + 1)) SV.un).getD i .un)
      rw [getD_app, get_app, List.length_map, List.length_map, le]
      by_cases h : i < ds.length
      · rw [if_pos h, if_pos h]
        obtain ⟨v, e, q⟩ := r.get i (List.getElem?_eq_getElem h)
        rw [List.getD_eq_getElem?_getD, List.getElem?_map, List.getElem?_map, List.getElem?_eq_getElem h, e]
        exact ⟨v, rfl, q⟩
      · rw [if_neg h, if_neg h, getD_rep]; trivial
  · cases i with
    | succ i => rw [noOwn] at h; cases h
    | zero =>
      cases j with
      | succ j => rw [noOwn] at h'; cases h'
      | zero => rfl
  · cases i with
    | succ i => rw [noOwn] at h; cases h
    | zero =>
      have e' : some (some (V.ref a)) = some (some (V.ref b)) := e
      cases e'
      exact .inr (by simp)
  · have e : (i, b) = (0, a) := by simpa using h
    cases e
    exact ⟨rfl, hio⟩
variable {P : Program} {w : World} {mg : Str → Option Value} {base : Heap}
/-- THE RULE for a def of values -/
theorem fn_val {x qual : Str} {params : Arguments} {body : List Stmt} {scope : Scope} {dvs : List V} {kws : List (Str × V)} {f : Addr} {fd : FuncData} {N ps : List Str} {k n : Nat} {g : M Fl} (Fn : FunD K x qual params body scope dvs kws f fd) (S : FnScope N ps scope) (hn : n = ps.length)
    (hb : ∀ (cdv : Value) (A : Around) (outer : List Env) (s : Shared) (H : Hp) (E : XK), Room k (A.deeper (envOfC qual scope s.heap.objs.size f cdv)) →
      AB (cxOf (L2.CX P w) P w K mg base N qual scope f cdv A outer s H E) (fun c d _ H => E c d H) body g) :
    FnOk P w K mg base (L2.CX P w) (k + 1) f fd ps (PSp K n (runF N.length g)) := by
  refine Fn.ok S (fun vs H Q E h => h.1.trans hn) fun cdv A outer s H vs Q E hr h => ?_
  obtain ⟨hl, F, ds, sF, r, hg⟩ := h
  obtain ⟨t, ht, q⟩ := hb cdv A outer s H E hr
  refine ⟨t, ht, q ⟨H, F, [], []⟩ _ H F _ _ (stt_start sF r) ?_⟩
  unfold runF at hg
  have aft : ∀ {σ' : St} {H' F' : Hp} {ρ : Ro}, Stt K ⟨H, F, [], []⟩ σ' H' F' ρ → Aft H F H' F' := fun S => ⟨fun a o e => S.same a o e fun i z => by simp at z, S.sub, S.ext, S.new⟩
  cases e : g (ds.map SV.val ++ List.replicate (N.length - ds.length) SV.un) with
  | ok a ρ =>
    rw [e] at hg
    cases a with
    | nx => exact fun σ' H' F' S q => hg .non H' F' (aft S) .non
    | rt d => exact fun v σ' H' F' S q rv => hg v H' F' (aft S) rv
    | rn ds => exact hg.elim
    | bk => exact hg.elim
    | ct => exact hg.elim
  | exc x ρ =>
    rw [e] at hg
    exact fun d σ' H' F' S q rv => hg d H' F' (aft S) rv
  | stuck => rw [e] at hg; exact hg
/-- THE RULE for a def that gives a new list -/
theorem fn_new {x qual : Str} {params : Arguments} {body : List Stmt} {scope : Scope} {dvs : List V} {kws : List (Str × V)} {f : Addr} {fd : FuncData} {N ps : List Str} {k n : Nat} {g : M Fl} (Fn : FunD K x qual params body scope dvs kws f fd) (S : FnScope N ps scope) (hn : n = ps.length)
    (hb : ∀ (cdv : Value) (A : Around) (outer : List Env) (s : Shared) (H : Hp) (E : XK), Room k (A.deeper (envOfC qual scope s.heap.objs.size f cdv)) →
      AB (cxOf (L2.CX P w) P w K mg base N qual scope f cdv A outer s H E) (fun c d _ H => E c d H) body g) :
    FnOk P w K mg base (L2.CX P w) (k + 1) f fd ps (NSp K n (runN N.length g)) := by
  refine Fn.ok S (fun vs H Q E h => h.1.trans hn) fun cdv A outer s H vs Q E hr h => ?_
  obtain ⟨hl, F, ds, sF, r, hg⟩ := h
  obtain ⟨t, ht, q⟩ := hb cdv A outer s H E hr
  refine ⟨t, ht, q ⟨H, F, [], []⟩ _ H F _ _ (stt_start sF r) ?_⟩
  unfold runN at hg
  have aft : ∀ {σ' : St} {H' F' : Hp} {ρ : Ro} {xt : List (Addr × HO)}, Stt K ⟨H, F, [], xt⟩ σ' H' F' ρ → Aft H F H' F' := fun S => ⟨fun a o e => S.same a o e fun i z => by simp at z, S.sub, S.ext, S.new⟩
  cases e : g (ds.map SV.val ++ List.replicate (N.length - ds.length) SV.un) with
  | ok a ρ =>
    rw [e] at hg
    cases a with
    | nx => exact hg.elim
    | rt d => exact hg.elim
    | rn xs =>
      refine fun a vs σ' H' F' S q rv => hg a vs H' F' (aft S) ?_ rv
      obtain ⟨h1, h2, h3, _⟩ := S.xt (a, .lst vs) (List.mem_cons_self ..)
      exact ⟨h1, h2, h3⟩
    | bk => exact hg.elim
    | ct => exact hg.elim
  | exc x ρ =>
    rw [e] at hg
    exact fun d σ' H' F' S q rv => hg d H' F' (aft S) rv
  | stuck => rw [e] at hg; exact hg
/-- THE RULE for a def that may change its first parameter -/
theorem fn_io {x qual : Str} {params : Arguments} {body : List Stmt} {scope : Scope} {dvs : List V} {kws : List (Str × V)} {f : Addr} {fd : FuncData} {N ps : List Str} {k n : Nat} {g : M Fl} (Fn : FunD K x qual params body scope dvs kws f fd) (S : FnScope N ps scope) (hn : n + 1 = ps.length)
    (hb : ∀ (cdv : Value) (A : Around) (outer : List Env) (s : Shared) (H : Hp) (E : XK), Room k (A.deeper (envOfC qual scope s.heap.objs.size f cdv)) →
      AB (cxOf (L2.CX P w) P w K mg base N qual scope f cdv A outer s H E) (fun c d _ H => E c d H) body g) :
    FnOk P w K mg base (L2.CX P w) (k + 1) f fd ps (ISp K n (runI N.length g)) := by
  refine Fn.ok S (fun vs H Q E h => h.1.trans hn) fun cdv A outer s H vs Q E hr h => ?_
  obtain ⟨hl, F, a, ws, sv, ds, rfl, sF, qs, hio, r, hg⟩ := h
  obtain ⟨t, ht, q⟩ := hb cdv A outer s H E hr
  refine ⟨t, ht, q ⟨H, F, [(0, a)], []⟩ _ H F _ _ (stt_startI sF qs hio r) ?_⟩
  unfold runI at hg
  have aft : ∀ {σ' : St} {H' F' : Hp} {ρ : Ro}, Stt K ⟨H, F, [(0, a)], []⟩ σ' H' F' ρ → AftIo K a (ρ.getD 0 .un) H F H' F' := fun {σ' H' F' ρ} S => by
    obtain ⟨e1, e2⟩ := S.io 0 a (by simp)
    refine ⟨fun b o ne e => S.same b o e fun i z => ne ?_, S.sub, S.ext, S.new, ?_, e2⟩
    · have : (i, b) = (0, a) := by simpa using z
      cases this; rfl
    · have q := S.at_ 0
      rw [e1] at q; exact q
  cases e : g (sv :: ds.map SV.val ++ List.replicate (N.length - (ds.length + 1)) SV.un) with
  | ok a ρ =>
    rw [e] at hg
    cases a with
    | nx => exact fun σ' H' F' S q => hg .non H' F' (aft S) .non
    | rt d => exact fun v σ' H' F' S q rv => hg v H' F' (aft S) rv
    | rn ds => exact hg.elim
    | bk => exact hg.elim
    | ct => exact hg.elim
  | exc x ρ =>
    rw [e] at hg
    exact fun d σ' H' F' S q rv => hg d H' F' (aft S) rv
  | stuck => rw [e] at hg; exact hg
end
end Mr
namespace Mr
open PySem PySem.Spec PyProof.Rows L2

/-! ### expressions: what they are worth -/
def mVar (i : Nat) : M D := fun ρ => match ρ.getD i .un with
  | .val d => .ok d ρ
  | .own false xs => .ok (.lst xs) (ρ.set i (.val (.lst xs)))
  | _ => .stuck
def mC (d : D) : M D := fun ρ => .ok d ρ
def m2 (g : D → D → FR D) (a b : M D) : M D := fun ρ => (a ρ).bind fun x ρ => (b ρ).bind fun y ρ => (g x y).lift ρ
def m1 (g : D → FR D) (a : M D) : M D := fun ρ => (a ρ).bind fun x ρ => (g x).lift ρ
def mL (g : List D → FR D) (a : M (List D)) : M D := fun ρ => (a ρ).bind fun xs ρ => (g xs).lift ρ
def mNil : M (List D) := fun ρ => .ok [] ρ
def mCons (a : M D) (r : M (List D)) : M (List D) := fun ρ => (a ρ).bind fun x ρ => (r ρ).bind fun xs ρ => .ok (x :: xs) ρ
def mIf (t : M Bool) (a b : M D) : M D := fun ρ => (t ρ).bind fun c ρ => if c = true then a ρ else b ρ
def mAnd (a b : M D) : M D := fun ρ => (a ρ).bind fun x ρ => match x with
  | .bl true => b ρ
  | .bl false => .ok (.bl false) ρ
  | _ => .stuck
def mOr (a b : M D) : M D := fun ρ => (a ρ).bind fun x ρ => match x with
  | .bl true => .ok (.bl true) ρ
  | .bl false => b ρ
  | _ => .stuck
def notD : D → FR D
  | .bl b => .ok (.bl (!b))
  | _ => .stuck
/-- a < b < c -/
def mChain (g h : D → D → FR D) (a b c : M D) : M D := fun ρ => (a ρ).bind fun x ρ => (b ρ).bind fun y ρ => ((g x y).lift ρ).bind fun z ρ => match z with
  | .bl true => (c ρ).bind fun w ρ => (h y w).lift ρ
  | .bl false => .ok (.bl false) ρ
  | _ => .stuck
/-! tests -/
def tOf (a : M D) : M Bool := fun ρ => (a ρ).bind fun x ρ => match x with
  | .bl b => .ok b ρ
  | _ => .stuck
def tNot (a : M Bool) : M Bool := fun ρ => (a ρ).bind fun b ρ => .ok (!b) ρ
def tAnd (a b : M Bool) : M Bool := fun ρ => (a ρ).bind fun c ρ => if c = true then b ρ else .ok false ρ
def tOr (a b : M Bool) : M Bool := fun ρ => (a ρ).bind fun c ρ => if c = true then .ok true ρ else b ρ

section
variable {X : Cx} {W : WX}
theorem AE.var {i : Nat} {x : Str} {pos : Pos} (h : PE X (.Name x pos) (tVar i)) : AE X W (.Name x pos) (mVar i) := by
  refine ⟨_, h, fun G σ H F ρ Q S hg => ?_⟩
  unfold mVar at hg
  have q := S.at_ i
  cases e : ρ.getD i .un with
  | un => rw [e] at hg; exact hg.elim
  | val d =>
    rw [e] at hg q
    obtain ⟨v, e1, r⟩ := q
    exact ⟨v, e1, hg H F S Sm.refl v r⟩
  | own p xs =>
    cases p with
    | true => rw [e] at hg; exact hg.elim
    | false =>
      obtain ⟨a, F', e1, S', sF, r⟩ := S.freeze e
      rw [e] at hg
      exact ⟨_, e1, hg H F' S' sF _ r⟩
  | ins p C ns ds => rw [e] at hg; exact hg.elim
theorem AE.cst {e : Expr} {v : V} {d : D} (h : PE X e (tC v)) (r : ∀ K H, Rep K H v d) : AE X W e (mC d) :=
  ⟨_, h, fun G σ H F ρ Q S hg => hg H F S Sm.refl v (r _ _)⟩
theorem AE.cstK {e : Expr} {v : V} {d : D} (h : PE X e (tC v)) (r : ∀ H, Rep X.K H v d) : AE X W e (mC d) :=
  ⟨_, h, fun G σ H F ρ Q S hg => hg H F S Sm.refl v (r _)⟩
theorem AE.int {i : Int} {j : Nat} {pos : Pos} : AE X W (.Constant (.int i) j pos) (mC (.int i)) := .cst pe_int fun _ _ => .int i
theorem AE.str {x : Str} {j : Nat} {pos : Pos} : AE X W (.Constant (.str x) j pos) (mC (.str x)) := .cst pe_str fun _ _ => .str x
theorem AE.bl {b : Bool} {j : Nat} {pos : Pos} : AE X W (.Constant (.bool b) j pos) (mC (.bl b)) := .cst pe_bl fun _ _ => .bl b
theorem AE.non {j : Nat} {pos : Pos} : AE X W (.Constant .none j pos) (mC .non) := .cst pe_non fun _ _ => .non
theorem AE.gint {x : Str} {i : Int} {t : Tok} {pos : Pos} (hg : Gl X x) (hm : X.mg x = some (.int i t)) (hd : (x == ("__debug__" : Str)) = false := by decide) : AE X W (.Name x pos) (mC (.int i)) := .cst (v := .int i) (pe_glob hg hm ⟨t, rfl⟩ hd) fun _ _ => .int i
theorem AE.gstr {x : Str} {i : Str} {t : Tok} {pos : Pos} (hg : Gl X x) (hm : X.mg x = some (.str i t)) (hd : (x == ("__debug__" : Str)) = false := by decide) : AE X W (.Name x pos) (mC (.str i)) := .cst (v := .str i) (pe_glob hg hm ⟨t, rfl⟩ hd) fun _ _ => .str i

/-- a two-place operation does g -/
def OA (X : Cx) (W : WX) (f : Value → Value → Sem Value) (g : D → D → FR D) : Prop :=
  ∃ r : R2, OpR X f r ∧ ∀ G σ H F ρ x y dx dy Q, Stt X.K G σ H F ρ → Rep X.K F x dx → Rep X.K F y dy → Good X.K G W σ F ((g dx dy).lift ρ) (PD X.K Q) → r x y H Q
def UA (X : Cx) (W : WX) (f : Value → Sem Value) (g : D → FR D) : Prop :=
  ∃ r : V → Hp → VK → Prop, UnR X f r ∧ ∀ G σ H F ρ x dx Q, Stt X.K G σ H F ρ → Rep X.K F x dx → Good X.K G W σ F ((g dx).lift ρ) (PD X.K Q) → r x H Q
/-- a call of a built-in value does g -/
def CA (X : Cx) (W : WX) (f : Value) (g : List D → FR D) : Prop :=
  ∃ r : List V → Hp → VK → Prop, CallR X f r ∧ ∀ G σ H F ρ vs ds Q, Stt X.K G σ H F ρ → Reps X.K F vs ds → Good X.K G W σ F ((g ds).lift ρ) (PD X.K Q) → r vs H Q
variable {a b c : Expr} {fa fb fc : M D} {pos : Pos}
theorem AE.bin {op : Operator} {g : D → D → FR D} (ho : OA X W (binaryOp op) g) (ha : AE X W a fa) (hb : AE X W b fb) : AE X W (.BinOp a op b pos) (m2 g fa fb) := by
  obtain ⟨r, h1, h2⟩ := ho
  obtain ⟨ta, pa, qa⟩ := ha
  obtain ⟨tb, pb, qb⟩ := hb
  refine ⟨_, pe_op h1 pa pb, fun G σ H F ρ Q S hg => qa G σ H F ρ _ S (hg.bind fun dx ρ1 H1 F1 S1 s1 g1 v r1 => qb G σ H1 F1 ρ1 _ S1 (g1.bind fun dy ρ2 H2 F2 S2 s2 g2 u r2 => ?_))⟩
  exact h2 G σ H2 F2 ρ2 v u dx dy Q S2 (r1.mono s2) r2 g2
theorem AE.cmp {op : CmpOp} {g : D → D → FR D} (ho : OA X W (compareOp op) g) (ha : AE X W a fa) (hb : AE X W b fb) (hm : behindInMarks op b = false) : AE X W (.Compare a [op] [b] pos) (m2 g fa fb) := by
  obtain ⟨r, h1, h2⟩ := ho
  obtain ⟨ta, pa, qa⟩ := ha
  obtain ⟨tb, pb, qb⟩ := hb
  refine ⟨_, pe_cmpR h1 pa pb hm, fun G σ H F ρ Q S hg => qa G σ H F ρ _ S (hg.bind fun dx ρ1 H1 F1 S1 s1 g1 v r1 => qb G σ H1 F1 ρ1 _ S1 (g1.bind fun dy ρ2 H2 F2 S2 s2 g2 u r2 => ?_))⟩
  exact h2 G σ H2 F2 ρ2 v u dx dy Q S2 (r1.mono s2) r2 g2
theorem tOf_bool {Q : Bool → Hp → Prop} {K : PySem.W.Frag} {G : Ent} {σ : St} {F : Hp} {r : R D} (h : Good K G W σ F (r.bind fun x ρ => match x with | .bl b => .ok b ρ | _ => .stuck) (PB Q)) : Good K G W σ F r (PD K fun v H => ∃ k, v = .bl k ∧ Q k H) :=
  h.bind fun d ρ1 H1 F1 S1 s1 g1 v r1 => by
    cases d with
    | bl b => cases r1; exact ⟨b, rfl, g1 H1 F1 S1 Sm.refl⟩
    | _ => exact g1.elim
theorem AT.cmp {op : CmpOp} {g : D → D → FR D} (ho : OA X W (compareOp op) g) (ha : AE X W a fa) (hb : AE X W b fb) (hm : behindInMarks op b = false) : AT X W (.Compare a [op] [b] pos) (tOf (m2 g fa fb)) := by
  obtain ⟨r, h1, h2⟩ := ho
  obtain ⟨ta, pa, qa⟩ := ha
  obtain ⟨tb, pb, qb⟩ := hb
  refine ⟨_, pt_cmpR h1 pa pb hm, fun G σ H F ρ Q S hg => qa G σ H F ρ _ S ((tOf_bool hg).bind fun dx ρ1 H1 F1 S1 s1 g1 v r1 => qb G σ H1 F1 ρ1 _ S1 (g1.bind fun dy ρ2 H2 F2 S2 s2 g2 u r2 => ?_))⟩
  exact h2 G σ H2 F2 ρ2 v u dx dy _ S2 (r1.mono s2) r2 g2
theorem AE.chain {op op' : CmpOp} {g h : D → D → FR D} (ho : OA X W (compareOp op) g) (ho' : OA X W (compareOp op') h) (ha : AE X W a fa) (hb : AE X W b fb) (hc : AE X W c fc) (hm : lastMarks [op, op'] [b, c] = false := by with_unfolding_all rfl) :
    AE X W (.Compare a [op, op'] [b, c] pos) (mChain g h fa fb fc) := by
  obtain ⟨r, h1, h2⟩ := ho
  obtain ⟨r', h3, h4⟩ := ho'
  obtain ⟨ta, pa, qa⟩ := ha
  obtain ⟨tb, pb, qb⟩ := hb
  obtain ⟨tc, pc, qc⟩ := hc
  refine ⟨_, pe_chain h1 h3 pa pb pc hm, fun G σ H F ρ Q S hg => qa G σ H F ρ _ S (hg.bind fun dx ρ1 H1 F1 S1 s1 g1 v r1 => qb G σ H1 F1 ρ1 _ S1 (g1.bind fun dy ρ2 H2 F2 S2 s2 g2 u r2 => ?_))⟩
  refine h2 G σ H2 F2 ρ2 v u dx dy _ S2 (r1.mono s2) r2 (g2.bind fun dz ρ3 H3 F3 S3 s3 g3 z r3 => ?_)
  cases dz with
  | bl k =>
    cases r3
    refine ⟨k, rfl, ?_⟩
    cases k with
    | true =>
      rw [if_pos rfl]
      exact qc G σ H3 F3 ρ3 _ S3 (g3.bind fun dw ρ4 H4 F4 S4 s4 g4 w r4 => h4 G σ H4 F4 ρ4 u w dy dw Q S4 (r2.mono (s3.tr s4)) r4 g4)
    | false =>
      rw [if_neg Bool.false_ne_true]
      exact g3 H3 F3 S3 Sm.refl _ (.bl false)
  | _ => exact g3.elim
theorem AT.chain {op op' : CmpOp} {g h : D → D → FR D} (ho : OA X W (compareOp op) g) (ho' : OA X W (compareOp op') h) (ha : AE X W a fa) (hb : AE X W b fb) (hc : AE X W c fc) (hm : lastMarks [op, op'] [b, c] = false := by with_unfolding_all rfl) :
    AT X W (.Compare a [op, op'] [b, c] pos) (tOf (mChain g h fa fb fc)) := by
  obtain ⟨r, h1, h2⟩ := ho
  obtain ⟨r', h3, h4⟩ := ho'
  obtain ⟨ta, pa, qa⟩ := ha
  obtain ⟨tb, pb, qb⟩ := hb
  obtain ⟨tc, pc, qc⟩ := hc
  refine ⟨_, pt_chain h1 h3 pa pb pc hm, fun G σ H F ρ Q S hg => qa G σ H F ρ _ S ((tOf_bool hg).bind fun dx ρ1 H1 F1 S1 s1 g1 v r1 => qb G σ H1 F1 ρ1 _ S1 (g1.bind fun dy ρ2 H2 F2 S2 s2 g2 u r2 => ?_))⟩
  refine h2 G σ H2 F2 ρ2 v u dx dy _ S2 (r1.mono s2) r2 (g2.bind fun dz ρ3 H3 F3 S3 s3 g3 z r3 => ?_)
  cases dz with
  | bl k =>
    cases r3
    refine ⟨k, rfl, ?_⟩
    cases k with
    | true =>
      rw [if_pos rfl]
      exact qc G σ H3 F3 ρ3 _ S3 (g3.bind fun dw ρ4 H4 F4 S4 s4 g4 w r4 => h4 G σ H4 F4 ρ4 u w dy dw _ S4 (r2.mono (s3.tr s4)) r4 g4)
    | false =>
      rw [if_neg Bool.false_ne_true]
      exact g3 H3 F3 S3 Sm.refl _ (.bl false)
  | _ => exact g3.elim
theorem AE.un {op : UnaryOp} {g : D → FR D} (ho : UA X W (unaryOp op) g) (ha : AE X W a fa) : AE X W (.UnaryOp op a pos) (m1 g fa) := by
  obtain ⟨r, h1, h2⟩ := ho
  obtain ⟨ta, pa, qa⟩ := ha
  exact ⟨_, pe_un h1 pa, fun G σ H F ρ Q S hg => qa G σ H F ρ _ S (hg.bind fun dx ρ1 H1 F1 S1 s1 g1 v r1 => h2 G σ H1 F1 ρ1 v dx Q S1 r1 g1)⟩
theorem AE.not (ha : AE X W a fa) : AE X W (.UnaryOp .Not a pos) (m1 notD fa) := by
  obtain ⟨ta, pa, qa⟩ := ha
  refine ⟨_, pe_not pa, fun G σ H F ρ Q S hg => qa G σ H F ρ _ S (hg.bind fun dx ρ1 H1 F1 S1 s1 g1 v r1 => ?_)⟩
  cases dx with
  | bl k => cases r1; exact ⟨k, rfl, g1 H1 F1 S1 Sm.refl _ (.bl _)⟩
  | _ => exact g1.elim
theorem AE.one {op : BoolOp} (ha : AE X W a fa) : AE X W (.BoolOp op [a] pos) fa := by
  obtain ⟨ta, pa, qa⟩ := ha
  exact ⟨_, pe_one pa, qa⟩
theorem AE.and {rest : List Expr} (ha : AE X W a fa) (hb : AE X W (.BoolOp .And (b :: rest) pos) fb) : AE X W (.BoolOp .And (a :: b :: rest) pos) (mAnd fa fb) := by
  obtain ⟨ta, pa, qa⟩ := ha
  obtain ⟨tb, pb, qb⟩ := hb
  refine ⟨_, pe_and pa pb, fun G σ H F ρ Q S hg => qa G σ H F ρ _ S (hg.bind fun dx ρ1 H1 F1 S1 s1 g1 v r1 => ?_)⟩
  cases dx with
  | bl k =>
    cases r1
    refine ⟨k, rfl, ?_⟩
    cases k with
    | true => rw [if_pos rfl]; exact qb G σ H1 F1 ρ1 Q S1 g1
    | false => rw [if_neg Bool.false_ne_true]; exact g1 H1 F1 S1 Sm.refl _ (.bl false)
  | _ => exact g1.elim
theorem AE.or {rest : List Expr} (ha : AE X W a fa) (hb : AE X W (.BoolOp .Or (b :: rest) pos) fb) : AE X W (.BoolOp .Or (a :: b :: rest) pos) (mOr fa fb) := by
  obtain ⟨ta, pa, qa⟩ := ha
  obtain ⟨tb, pb, qb⟩ := hb
  refine ⟨_, pe_or pa pb, fun G σ H F ρ Q S hg => qa G σ H F ρ _ S (hg.bind fun dx ρ1 H1 F1 S1 s1 g1 v r1 => ?_)⟩
  cases dx with
  | bl k =>
    cases r1
    refine ⟨k, rfl, ?_⟩
    cases k with
    | true => rw [if_pos rfl]; exact g1 H1 F1 S1 Sm.refl _ (.bl true)
    | false => rw [if_neg Bool.false_ne_true]; exact qb G σ H1 F1 ρ1 Q S1 g1
  | _ => exact g1.elim
/-! tests -/
variable {ta tb : M Bool}
theorem AT.val (ha : AE X W a fa) (he : ∀ whole, isTrue a X.env whole = (do let v ← whole; standAt a.pos; holding [v] (truthy v)) := by intro _; rfl) : AT X W a (tOf fa) := by
  obtain ⟨t, pa, qa⟩ := ha
  exact ⟨_, pt_val pa he, fun G σ H F ρ Q S hg => qa G σ H F ρ _ S (tOf_bool hg)⟩
theorem AW.pt (h : AW X W a ta) : AT X W a ta := by
  obtain ⟨t, pa, qa⟩ := h
  exact ⟨_, pa.pt, qa⟩
theorem AT.not (ha : AT X W a ta) : AT X W (.UnaryOp .Not a pos) (tNot ta) := by
  obtain ⟨t, pa, qa⟩ := ha
  exact ⟨_, pt_not pa, fun G σ H F ρ Q S hg => qa G σ H F ρ _ S (hg.bind fun k ρ1 H1 F1 S1 s1 g1 => g1 H1 F1 S1 Sm.refl)⟩
theorem AW.and1 (ha : AT X W a ta) : AW X W (.BoolOp .And [a] pos) ta := by
  obtain ⟨t, pa, qa⟩ := ha
  exact ⟨_, pw_and1 pa, qa⟩
theorem AW.or1 (ha : AT X W a ta) : AW X W (.BoolOp .Or [a] pos) ta := by
  obtain ⟨t, pa, qa⟩ := ha
  exact ⟨_, pw_or1 pa, qa⟩
theorem AW.and {rest : List Expr} (ha : AT X W a ta) (hb : AW X W (.BoolOp .And (b :: rest) pos) tb) : AW X W (.BoolOp .And (a :: b :: rest) pos) (tAnd ta tb) := by
  obtain ⟨t, pa, qa⟩ := ha
  obtain ⟨u, pb, qb⟩ := hb
  refine ⟨_, pw_and pa pb, fun G σ H F ρ Q S hg => qa G σ H F ρ _ S (hg.bind fun k ρ1 H1 F1 S1 s1 g1 => ?_)⟩
  show if k = true then u σ H1 Q else Q false H1
  cases k with
  | true => rw [if_pos rfl]; exact qb G σ H1 F1 ρ1 Q S1 g1
  | false => rw [if_neg Bool.false_ne_true]; exact g1 H1 F1 S1 Sm.refl
theorem AW.or {rest : List Expr} (ha : AT X W a ta) (hb : AW X W (.BoolOp .Or (b :: rest) pos) tb) : AW X W (.BoolOp .Or (a :: b :: rest) pos) (tOr ta tb) := by
  obtain ⟨t, pa, qa⟩ := ha
  obtain ⟨u, pb, qb⟩ := hb
  refine ⟨_, pw_or pa pb, fun G σ H F ρ Q S hg => qa G σ H F ρ _ S (hg.bind fun k ρ1 H1 F1 S1 s1 g1 => ?_)⟩
  show if k = true then Q true H1 else u σ H1 Q
  cases k with
  | true => rw [if_pos rfl]; exact g1 H1 F1 S1 Sm.refl
  | false => rw [if_neg Bool.false_ne_true]; exact qb G σ H1 F1 ρ1 Q S1 g1
theorem AE.ifx (hc : AT X W c ta) (ha : AE X W a fa) (hb : AE X W b fb) : AE X W (.IfExp c a b pos) (mIf ta fa fb) := by
  obtain ⟨t, pc, qc⟩ := hc
  obtain ⟨ua, pa, qa⟩ := ha
  obtain ⟨ub, pb, qb⟩ := hb
  refine ⟨_, pe_ifExp pc pa pb, fun G σ H F ρ Q S hg => qc G σ H F ρ _ S (hg.bind fun k ρ1 H1 F1 S1 s1 g1 => ?_)⟩
  show if k = true then ua σ H1 Q else ub σ H1 Q
  cases k with
  | true => rw [if_pos rfl]; exact qa G σ H1 F1 ρ1 Q S1 g1
  | false => rw [if_neg Bool.false_ne_true]; exact qb G σ H1 F1 ρ1 Q S1 g1
/-! arguments, displays, calls -/
variable {es : List Expr} {fs : M (List D)}
theorem AA.nil : AA X W [] mNil := ⟨_, pa_nil, fun G σ H F ρ Q S hg => hg H F S Sm.refl [] .nil⟩
theorem AA.cons (ha : AE X W a fa) (hr : AA X W es fs) (hs : starEach (a :: es) X.env = (false, eval a X.env) :: starEach es X.env := by rfl) : AA X W (a :: es) (mCons fa fs) := by
  obtain ⟨ta, pa, qa⟩ := ha
  obtain ⟨tr, pr, qr⟩ := hr
  refine ⟨_, pa_cons pa pr hs, fun G σ H F ρ Q S hg => qa G σ H F ρ _ S (hg.bind fun d ρ1 H1 F1 S1 s1 g1 v r1 => qr G σ H1 F1 ρ1 _ S1 (g1.bind fun ds ρ2 H2 F2 S2 s2 g2 vs r2 => ?_))⟩
  exact g2 H2 F2 S2 Sm.refl _ (.cons (r1.mono s2) r2)
def tupD (ds : List D) : FR D := if ds.length ≤ sizeLine then .ok (.tup ds) else .stuck
def lstD (ds : List D) : FR D := if ds.length ≤ sizeLine then .ok (.lst ds) else .stuck
theorem newTup {G : Ent} {σ : St} {H F : Hp} {ρ : Ro} {vs : List V} {ds : List D} {Q : VK} {p : Addr} (S : Stt X.K G σ H F ρ) (r : Reps X.K F vs ds) (g : Good X.K G W σ F (.ok (.tup ds) ρ) (PD X.K Q)) (hp : H p = none) : Q (.ref p) (upd H p (.tup vs)) :=
  g _ _ (S.alloc hp) (S.allocF hp) _ (.tup (.of upd_same) (r.mono (S.allocF hp)))
theorem newLst {G : Ent} {σ : St} {H F : Hp} {ρ : Ro} {vs : List V} {ds : List D} {Q : VK} {p : Addr} (S : Stt X.K G σ H F ρ) (r : Reps X.K F vs ds) (g : Good X.K G W σ F (.ok (.lst ds) ρ) (PD X.K Q)) (hp : H p = none) : Q (.ref p) (upd H p (.lst vs)) :=
  g _ _ (S.alloc hp) (S.allocF hp) _ (.lst upd_same (r.mono (S.allocF hp)))
theorem AE.tup {k : Nat} (h : AA X W es fs) : AE X W (.Tuple es k pos) (mL tupD fs) := by
  obtain ⟨t, p, q⟩ := h
  refine ⟨_, pe_tup p, fun G σ H F ρ Q S hg => q G σ H F ρ _ S (hg.bind fun ds ρ1 H1 F1 S1 s1 g1 vs r1 => ?_)⟩
  unfold tupD at g1
  by_cases hz : ds.length ≤ sizeLine
  · rw [if_pos hz] at g1
    exact ⟨by rw [r1.length]; exact hz, fun p hp => newTup S1 r1 g1 hp⟩
  · rw [if_neg hz] at g1; exact g1.elim
theorem AE.lst (h : AA X W es fs) : AE X W (.List es pos) (mL lstD fs) := by
  obtain ⟨t, p, q⟩ := h
  refine ⟨_, pe_lst p, fun G σ H F ρ Q S hg => q G σ H F ρ _ S (hg.bind fun ds ρ1 H1 F1 S1 s1 g1 vs r1 => ?_)⟩
  unfold lstD at g1
  by_cases hz : ds.length ≤ sizeLine
  · rw [if_pos hz] at g1
    exact ⟨by rw [r1.length]; exact hz, fun p hp => newLst S1 r1 g1 hp⟩
  · rw [if_neg hz] at g1; exact g1.elim
theorem AE.blt {x : Str} {p : Pos} {id : String} {g : List D → FR D} (hc : CA X W (.builtin id) g) (hg : Gl X x) (hm : X.mg x = none) (hv : bootBuiltins x = some (.builtin id)) (ha : AA X W (a :: es) fs) (hn : x ≠ "__name__" := by decide) (hdb : (x == ("__debug__" : Str)) = false := by decide)
    (he : starEach (a :: es) X.env = (false, eval a X.env) :: starEach es X.env := by rfl) (hpl : (backTo pos (starEach es X.env)).any (·.1) = false := by rfl) : AE X W (.Call (.Name x p) (a :: es) [] pos) (mL g fs) := by
  obtain ⟨r, h1, h2⟩ := hc
  obtain ⟨t, pa, qa⟩ := ha
  exact ⟨_, pe_callB h1 hg hm hv pa hn hdb he hpl, fun G σ H F ρ Q S hgd => qa G σ H F ρ _ S (hgd.bind fun ds ρ1 H1 F1 S1 s1 g1 vs r1 => h2 G σ H1 F1 ρ1 vs ds Q S1 r1 g1)⟩
theorem AE.bty {x : Str} {p : Pos} {T : String} {g : List D → FR D} (hc : CA X W (.type T) g) (hg : Gl X x) (hm : X.mg x = none) (hv : bootBuiltins x = some (.type T)) (ha : AA X W (a :: es) fs) (hn : x ≠ "__name__" := by decide) (hdb : (x == ("__debug__" : Str)) = false := by decide)
    (he : starEach (a :: es) X.env = (false, eval a X.env) :: starEach es X.env := by rfl) (hpl : (backTo pos (starEach es X.env)).any (·.1) = false := by rfl) : AE X W (.Call (.Name x p) (a :: es) [] pos) (mL g fs) := by
  obtain ⟨r, h1, h2⟩ := hc
  obtain ⟨t, pa, qa⟩ := ha
  exact ⟨_, pe_callTy h1 hg hm hv pa hn hdb he hpl, fun G σ H F ρ Q S hgd => qa G σ H F ρ _ S (hgd.bind fun ds ρ1 H1 F1 S1 s1 g1 vs r1 => h2 G σ H1 F1 ρ1 vs ds Q S1 r1 g1)⟩
end
end Mr
namespace Mr
open PySem PySem.Spec PyProof.Rows L2

/-! ### data as the library's data -/
mutual
def py : D → PyData
  | .non => .none
  | .bl b => .bool b
  | .int i => .int i
  | .str x => .str x
  | .tup xs => .tuple (pys xs)
  | .lst xs => .list (pys xs)
  | .frz xs => .list (pys xs)
  | .obj _ _ _ => .none
  | .opq _ => .none
def pys : List D → List PyData
  | [] => []
  | x :: xs => py x :: pys xs
end
mutual
/-- plain data, at most so deep -/
def okD : Nat → D → Bool
  | _, .non => true
  | _, .bl _ => true
  | _, .int _ => true
  | _, .str _ => true
  | n, .tup xs => match n with | 0 => false | n + 1 => okDs n xs
  | n, .lst xs => match n with | 0 => false | n + 1 => okDs n xs
  | n, .frz xs => match n with | 0 => false | n + 1 => okDs n xs
  | _, .obj _ _ _ => false
  | _, .opq _ => false
def okDs : Nat → List D → Bool
  | _, [] => true
  | n, x :: xs => okD n x && okDs n xs
end
mutual
theorem okD_py : ∀ (n : Nat) (d : D), okD n d = true → (py d).plain = true ∧ (py d).depth ≤ n
  | _, .non, _ => ⟨rfl, Nat.zero_le _⟩
  | _, .bl _, _ => ⟨rfl, Nat.zero_le _⟩
  | _, .int _, _ => ⟨rfl, Nat.zero_le _⟩
  | _, .str _, _ => ⟨rfl, Nat.zero_le _⟩
  | 0, .tup xs, h => by simp [okD] at h
  | n + 1, .tup xs, h => by
    have := okDs_py n xs (by simpa [okD] using h)
    exact ⟨by simpa [py, PyData.plain] using this.1, by simp only [py, PyData.depth]; omega⟩
  | 0, .lst xs, h => by simp [okD] at h
  | n + 1, .lst xs, h => by
    have := okDs_py n xs (by simpa [okD] using h)
    exact ⟨by simpa [py, PyData.plain] using this.1, by simp only [py, PyData.depth]; omega⟩
  | 0, .frz xs, h => by simp [okD] at h
  | n + 1, .frz xs, h => by
    have := okDs_py n xs (by simpa [okD] using h)
    exact ⟨by simpa [py, PyData.plain] using this.1, by simp only [py, PyData.depth]; omega⟩
  | _, .obj _ _ _, h => by simp [okD] at h
  | _, .opq _, h => by simp [okD] at h
theorem okDs_py : ∀ (n : Nat) (ds : List D), okDs n ds = true → PyData.plainAll (pys ds) = true ∧ PyData.depthAll (pys ds) ≤ n
  | _, [], _ => ⟨rfl, Nat.zero_le _⟩
  | n, x :: xs, h => by
    have h' : okD n x = true ∧ okDs n xs = true := by simpa [okDs] using h
    have a := okD_py n x h'.1
    have b := okDs_py n xs h'.2
    exact ⟨by simp [pys, PyData.plainAll, a.1, b.1], by simp only [pys, PyData.depthAll]; omega⟩
end
mutual
theorem rep_dp {K : PySem.W.Frag} {H : Hp} : ∀ {v : V} {d : D} (n : Nat), Rep K H v d → okD n d = true → Dp K H v (py d)
  | _, _, _, .non, _ => .non
  | _, _, _, .bl b, _ => .bl b
  | _, _, _, .int i, _ => .int i
  | _, _, _, .str x, _ => .str x
  | _, _, 0, .tup s r, h => by simp [okD] at h
  | _, _, n + 1, .tup s r, h => .tup s (reps_dp n r (by simpa [okD] using h))
  | _, _, 0, .lst s r, h => by simp [okD] at h
  | _, _, n + 1, .lst s r, h => .lst (.of s) (reps_dp n r (by simpa [okD] using h))
  | _, _, 0, .frz s r, h => by simp [okD] at h
  | _, _, n + 1, .frz s r, h => .lst s (reps_dp n r (by simpa [okD] using h))
  | _, _, _, .obj _ _ _ _, h => by simp [okD] at h
  | _, _, _, .opq _, h => by simp [okD] at h
theorem reps_dp {K : PySem.W.Frag} {H : Hp} : ∀ {vs : List V} {ds : List D} (n : Nat), Reps K H vs ds → okDs n ds = true → DpAll K H vs (pys ds)
  | _, _, _, .nil, _ => .nil
  | _, _, n, .cons a r, h => by
    rw [okDs, Bool.and_eq_true] at h
    exact .cons (rep_dp n a h.1) (reps_dp n r h.2)
end
theorem Sm.dp_aux {K : PySem.W.Frag} {F H : Hp} (s : Sm F H) {v : V} {d : D} (r : Rep K F v d) : Rep K H v d := r.mono s
/-- == of data -/
def eqv (a b : D) : Bool := PyData.eqv (py a) (py b)

/-! ### operations on data -/
def addD : D → D → FR D
  | .int i, .int j => .ok (.int (i + j))
  | .str a, .str b => if a.length + b.length ≤ sizeLine then .ok (.str (a ++ b)) else .stuck
  | .tup xs, .tup ys => if xs ≠ [] ∧ xs.length + ys.length ≤ sizeLine then .ok (.tup (xs ++ ys)) else .stuck
  | .lst xs, .lst ys => if xs.length + ys.length ≤ sizeLine then .ok (.lst (xs ++ ys)) else .stuck
  | _, _ => .stuck
def subD : D → D → FR D
  | .int i, .int j => .ok (.int (i - j))
  | _, _ => .stuck
def mulOk (i j : Int) : Prop := (Builtin.Int.intBits i : Int) + (Builtin.Int.intBits j : Int) ≤ 134217728
instance (i j : Int) : Decidable (mulOk i j) := inferInstanceAs (Decidable (_ ≤ _))
/-- a list (a tuple of at least one, twice or more often) times an int -/
def mulD : D → D → FR D
  | .int i, .int j => if mulOk i j then .ok (.int (i * j)) else .stuck
  | .lst xs, .int k => if -(2 ^ 63) ≤ k ∧ k < 2 ^ 63 ∧ xs.length * k.toNat ≤ sizeLine then .ok (.lst (List.replicate k.toNat xs).flatten) else .stuck
  | .tup xs, .int k => if k = 1 then .ok (.tup xs) else if xs ≠ [] ∧ 2 ≤ k ∧ k ≤ 1000 ∧ xs.length ≤ 1000 then .ok (.tup (List.replicate k.toNat xs).flatten) else .stuck
  | _, _ => .stuck
def divOk (i j : Int) : Prop := j ≠ 0 ∧ Builtin.divisionGoesByPylong i j = false
instance (i j : Int) : Decidable (divOk i j) := inferInstanceAs (Decidable (_ ∧ _))
def divD : D → D → FR D
  | .int i, .int j => if divOk i j then .ok (.int (i.fdiv j)) else .stuck
  | _, _ => .stuck
def modD : D → D → FR D
  | .int i, .int j => if j ≠ 0 then .ok (.int (i.fmod j)) else .stuck
  | _, _ => .stuck
def powD : D → D → FR D
  | .int i, .int j => if 0 ≤ j ∧ (Builtin.Int.intBits i : Int) * j ≤ 2 ^ 27 then .ok (.int (i ^ j.toNat)) else .stuck
  | _, _ => .stuck
def negD : D → FR D
  | .int i => .ok (.int (-i))
  | _ => .stuck
def ltD : D → D → FR D
  | .int i, .int j => .ok (.bl (decide (i < j)))
  | .str a, .str b => .ok (.bl (decide (a.cps.toList < b.cps.toList)))
  | _, _ => .stuck
def leD : D → D → FR D
  | .int i, .int j => .ok (.bl (decide (i ≤ j)))
  | .str a, .str b => .ok (.bl (!decide (b.cps.toList < a.cps.toList)))
  | _, _ => .stuck
def gtD : D → D → FR D
  | .int i, .int j => .ok (.bl (decide (j < i)))
  | _, _ => .stuck
def geD : D → D → FR D
  | .int i, .int j => .ok (.bl (decide (j ≤ i)))
  | _, _ => .stuck
def eqD (a b : D) : FR D := if okD 12 a = true ∧ okD 12 b = true then .ok (.bl (eqv a b)) else .stuck
def neD (a b : D) : FR D := if okD 12 a = true ∧ okD 12 b = true then .ok (.bl (!eqv a b)) else .stuck
def isNon : D → Bool
  | .non => true
  | .opq v => decide (v = .non)
  | _ => false
def isD (a b : D) : FR D := match b with
  | .non => .ok (.bl (isNon a))
  | _ => .stuck
def isntD (a b : D) : FR D := match b with
  | .non => .ok (.bl (!isNon a))
  | _ => .stuck
/-- a text within a text -/
def subStr (a b : Str) : Bool := !(Builtin.Str.occurrences b a 0 b.length 1).isEmpty
def inD : D → D → FR D
  | .str a, .str b => .ok (.bl (subStr a b))
  | a, .tup xs => if okD 12 a = true ∧ okDs 12 xs = true then .ok (.bl (xs.any fun y => eqv y a)) else .stuck
  | a, .lst xs => if okD 12 a = true ∧ okDs 12 xs = true then .ok (.bl (xs.any fun y => eqv y a)) else .stuck
  | _, _ => .stuck
def ninD : D → D → FR D
  | .str a, .str b => .ok (.bl (!subStr a b))
  | a, .tup xs => if okD 12 a = true ∧ okDs 12 xs = true then .ok (.bl (!xs.any fun y => eqv y a)) else .stuck
  | a, .lst xs => if okD 12 a = true ∧ okDs 12 xs = true then .ok (.bl (!xs.any fun y => eqv y a)) else .stuck
  | _, _ => .stuck
/-- what has places -/
def seqD : D → Option (List D)
  | .tup xs => some xs
  | .lst xs => some xs
  | .frz xs => some xs
  | _ => none
def lenD : List D → FR D
  | [.str x] => if x.length ≤ sizeLine then .ok (.int x.length) else .stuck
  | [.tup xs] => .ok (.int xs.length)
  | [.lst xs] => .ok (.int xs.length)
  | [.frz xs] => .ok (.int xs.length)
  | _ => .stuck
/-- the ints of data -/
def intsD : List D → Option (List Int)
  | [] => some []
  | .int i :: r => (intsD r).map (i :: ·)
  | _ => none
def blsD : List D → Option (List Bool)
  | [] => some []
  | .bl i :: r => (blsD r).map (i :: ·)
  | _ => none
def sumD : List D → FR D
  | [.lst xs] => match intsD xs with
    | some ns => .ok (.int ns.sum)
    | none => .stuck
  | _ => .stuck
def allD : List D → FR D
  | [.lst xs] => match blsD xs with
    | some bs => .ok (.bl (bs.all id))
    | none => .stuck
  | _ => .stuck
def anyD : List D → FR D
  | [.lst xs] => match blsD xs with
    | some bs => .ok (.bl (bs.any id))
    | none => .stuck
  | _ => .stuck
def tupleD : List D → FR D
  | [.lst xs] => .ok (.tup xs)
  | [.tup xs] => .ok (.tup xs)
  | _ => .stuck
def listD : List D → FR D
  | [.lst xs] => .ok (.lst xs)
  | [.tup xs] => .ok (.lst xs)
  | [.frz xs] => .ok (.lst xs)
  | _ => .stuck
def intD : List D → FR D
  | [.int i] => .ok (.int i)
  | [.bl b] => .ok (.int (if b then 1 else 0))
  | _ => .stuck
def absD : List D → FR D
  | [.int i] => .ok (.int (if i < 0 then -i else i))
  | _ => .stuck
def max2D : List D → FR D
  | [.int i, .int j] => .ok (.int (if j > i then j else i))
  | _ => .stuck
def min2D : List D → FR D
  | [.int i, .int j] => .ok (.int (if j < i then j else i))
  | _ => .stuck
/-- isinstance of a built-in class: the class's number is 0 int, 1 bool, 2 str, 3 tuple, 4 list, 5 dict -/
def isKind (T : String) : D → Option Bool
  | .non => if T = "int" ∨ T = "bool" ∨ T = "str" ∨ T = "tuple" ∨ T = "list" ∨ T = "dict" then some false else none
  | .bl _ => if T = "int" ∨ T = "bool" then some true else if T = "str" ∨ T = "tuple" ∨ T = "list" ∨ T = "dict" then some false else none
  | .int _ => if T = "int" then some true else if T = "bool" ∨ T = "str" ∨ T = "tuple" ∨ T = "list" ∨ T = "dict" then some false else none
  | .str _ => if T = "str" then some true else if T = "int" ∨ T = "bool" ∨ T = "tuple" ∨ T = "list" ∨ T = "dict" then some false else none
  | .tup _ => if T = "tuple" then some true else if T = "int" ∨ T = "bool" ∨ T = "str" ∨ T = "list" ∨ T = "dict" then some false else none
  | .lst _ => if T = "list" then some true else if T = "int" ∨ T = "bool" ∨ T = "str" ∨ T = "tuple" ∨ T = "dict" then some false else none
  | _ => none
def isiD : List D → FR D
  | [d, .opq (.ty T)] => match isKind T d with
    | some b => .ok (.bl b)
    | none => .stuck
  | _ => .stuck
def ixD : D → D → FR D
  | .str x, .int i => if x.length ≤ sizeLine then match atI x.cps.toList i with
    | some c => .ok (.str ⟨#[c]⟩)
    | none => .stuck
    else .stuck
  | .tup xs, .int i => match atI xs i with
    | some d => .ok d
    | none => .stuck
  | .lst xs, .int i => match atI xs i with
    | some d => .ok d
    | none => .stuck
  | .frz xs, .int i => match atI xs i with
    | some d => .ok d
    | none => .stuck
  | _, _ => .stuck
def cutD (xs : List D) (lo hi : Option Int) : List D := (xs.drop (HT.sIx xs.length 0 lo)).take (HT.sIx xs.length xs.length hi - HT.sIx xs.length 0 lo)
def optI : D → Option (Option Int)
  | .int i => some (some i)
  | _ => none
def sliceD (x : D) (lo hi : Option Int) : FR D := match x with
  | .tup xs => .ok (.tup (cutD xs lo hi))
  | .lst xs => .ok (.lst (cutD xs lo hi))
  | .frz xs => .ok (.lst (cutD xs lo hi))
  | .str z => if z.length ≤ sizeLine then .ok (.str (cutS z lo hi)) else .stuck
  | _ => .stuck

theorem intsD_map : ∀ ns : List Int, intsD (ns.map D.int) = some ns
  | [] => rfl
  | n :: r => by simp [intsD, intsD_map r]
theorem blsD_map : ∀ ns : List Bool, blsD (ns.map D.bl) = some ns
  | [] => rfl
  | n :: r => by simp [blsD, blsD_map r]
theorem reps_ints {K : PySem.W.Frag} {H : Hp} : ∀ {vs : List V} {ds : List D} {ns : List Int}, Reps K H vs ds → intsD ds = some ns → vs = ns.map V.int
  | _, _, _, .nil, e => by simp [intsD] at e; subst e; rfl
  | _, _, _, .cons h r, e => by
    cases h with
    | int i =>
      simp only [intsD, Option.map_eq_some_iff] at e
      obtain ⟨ns, e1, rfl⟩ := e
      rw [reps_ints r e1]; rfl
    | _ => simp [intsD] at e
theorem reps_bls {K : PySem.W.Frag} {H : Hp} : ∀ {vs : List V} {ds : List D} {ns : List Bool}, Reps K H vs ds → blsD ds = some ns → vs = ns.map V.bl
  | _, _, _, .nil, e => by simp [blsD] at e; subst e; rfl
  | _, _, _, .cons h r, e => by
    cases h with
    | bl i =>
      simp only [blsD, Option.map_eq_some_iff] at e
      obtain ⟨ns, e1, rfl⟩ := e
      rw [reps_bls r e1]; rfl
    | _ => simp [blsD] at e
theorem reps_at {K : PySem.W.Frag} {H : Hp} {vs : List V} {ds : List D} {i : Int} {d : D} (r : Reps K H vs ds) (h : atI ds i = some d) : ∃ v, atI vs i = some v ∧ Rep K H v d := by
  unfold atI at h ⊢
  rw [r.length]
  cases e : ixN ds.length i with
  | none => rw [e] at h; simp at h
  | some j =>
    rw [e] at h
    exact r.get j h

section
variable {X : Cx} {W : WX}
theorem OA.add : OA X W (binaryOp .Add) addD := by
  refine ⟨_, op_add.or (op_add_str.or (op_catT.or op_cat)), fun G σ H F ρ x y dx dy Q S rx ry hg => ?_⟩
  cases rx with
  | int i =>
    cases ry with
    | int j => exact .inl ⟨i, j, rfl, rfl, hg H F S Sm.refl _ (.int _)⟩
    | _ => exact hg.elim
  | str a =>
    cases ry with
    | str b =>
      simp only [addD] at hg
      by_cases hz : a.length + b.length ≤ sizeLine
      · rw [if_pos hz] at hg; exact .inr (.inl ⟨a, b, rfl, rfl, hz, hg H F S Sm.refl _ (.str _)⟩)
      · rw [if_neg hz] at hg; exact hg.elim
    | _ => exact hg.elim
  | tup hx rx =>
    cases ry with
    | tup hy ry =>
      simp only [addD] at hg
      split at hg
      · rename_i hz
        refine .inr (.inr (.inl ⟨_, _, _, _, rfl, rfl, SqTm S.sub hx, SqTm S.sub hy, ?_, ?_, fun e => ?_, fun e p hp => ?_⟩))
        · intro e
          have := rx.length
          rw [e] at this
          exact hz.1 (List.eq_nil_of_length_eq_zero this.symm)
        · rw [rx.length, ry.length]; exact hz.2
        · subst e
          cases ry
          rw [List.append_nil] at hg
          exact hg H F S Sm.refl _ (.tup hx rx)
        · exact newTup S (rx.append ry) hg hp
      · exact hg.elim
    | _ => exact hg.elim
  | lst hx rx =>
    cases ry with
    | lst hy ry =>
      simp only [addD] at hg
      split at hg
      · rename_i hz
        refine .inr (.inr (.inr ⟨_, _, _, _, rfl, rfl, S.sub _ _ hx, S.sub _ _ hy, ?_, fun p hp => ?_⟩))
        · rw [rx.length, ry.length]; exact hz
        · exact newLst S (rx.append ry) hg hp
      · exact hg.elim
    | _ => exact hg.elim
  | _ => exact hg.elim
theorem OA.ofI {f : Value → Value → Sem Value} {r : R2} (h : OpR X f r) {g : D → D → FR D} (hr : ∀ G σ H F ρ i j Q, Stt X.K G σ H F ρ → Good X.K G W σ F ((g (.int i) (.int j)).lift ρ) (PD X.K Q) → r (.int i) (.int j) H Q)
    (hs : ∀ dx dy, g dx dy = .stuck ∨ ∃ i j, dx = .int i ∧ dy = .int j) : OA X W f g := by
  refine ⟨r, h, fun G σ H F ρ x y dx dy Q S rx ry hg => ?_⟩
  rcases hs dx dy with e | ⟨i, j, rfl, rfl⟩
  · rw [e] at hg; exact hg.elim
  · cases rx; cases ry
    exact hr G σ H F ρ i j Q S hg
theorem OA.sub : OA X W (binaryOp .Sub) subD := .ofI op_sub (fun G σ H F ρ i j Q S hg => ⟨i, j, rfl, rfl, hg H F S Sm.refl _ (.int _)⟩) fun dx dy => by
  cases dx <;> cases dy <;> first | exact .inl rfl | exact .inr ⟨_, _, rfl, rfl⟩
theorem OA.mod : OA X W (binaryOp .Mod) modD := .ofI op_modN (fun G σ H F ρ i j Q S hg => by
    simp only [modD] at hg
    split at hg
    · rename_i hz; exact ⟨i, j, rfl, rfl, hz, hg H F S Sm.refl _ (.int _)⟩
    · exact hg.elim) fun dx dy => by
  cases dx <;> cases dy <;> first | exact .inl rfl | exact .inr ⟨_, _, rfl, rfl⟩
theorem op_fdivP : OpR X (binaryOp .FloorDiv) (rI divOk fun i j => .int (i.fdiv j)) := opI fun _ _ _ _ _ _ _ hc q => floordiv_int hc.1 q (.inl hc.2)
theorem OA.div : OA X W (binaryOp .FloorDiv) divD := .ofI op_fdivP (fun G σ H F ρ i j Q S hg => by
    simp only [divD] at hg
    split at hg
    · rename_i hz; exact ⟨i, j, rfl, rfl, hz, hg H F S Sm.refl _ (.int _)⟩
    · exact hg.elim) fun dx dy => by
  cases dx <;> cases dy <;> first | exact .inl rfl | exact .inr ⟨_, _, rfl, rfl⟩
theorem op_powP : OpR X (binaryOp .Pow) (rI (fun i j => 0 ≤ j ∧ (Builtin.Int.intBits i : Int) * j ≤ 2 ^ 27) fun i j => .int (i ^ j.toNat)) := opI fun _ _ _ _ _ _ _ hc q => pow_int hc.1 hc.2 q
theorem OA.pow : OA X W (binaryOp .Pow) powD := .ofI op_powP (fun G σ H F ρ i j Q S hg => by
    simp only [powD] at hg
    split at hg
    · rename_i hz; exact ⟨i, j, rfl, rfl, hz, hg H F S Sm.refl _ (.int _)⟩
    · exact hg.elim) fun dx dy => by
  cases dx <;> cases dy <;> first | exact .inl rfl | exact .inr ⟨_, _, rfl, rfl⟩
theorem reps_rep {K : PySem.W.Frag} {H : Hp} {vs : List V} {ds : List D} (r : Reps K H vs ds) : ∀ n : Nat, Reps K H (List.replicate n vs).flatten (List.replicate n ds).flatten
  | 0 => .nil
  | n + 1 => by
    rw [List.replicate_succ, List.replicate_succ, List.flatten_cons, List.flatten_cons]
    exact r.append (reps_rep r n)
end
theorem tuple_mulW1 (l : Addr) (items : Array Value) (n : Nat) (sl : Array (Option Value)) (dd : Option Addr) (u : Tok) :
    Meets (Builtin.«tuple.__mul__» ⟨[.ref l, .int 1 u], []⟩) (fun _ R s => s.heap.get? l = some { cls := .type "tuple", dict := dd, data := .seq items n, slots := sl } ∧
      R (.ok (.ret (Value.ref l))) s) :=
  .of_wp fun prog w A R s h => by
    obtain ⟨hp, g, d, tk, os⟩ := s
    obtain ⟨hl, h⟩ := h
    have f1 := AutoSeq1.idx_int
    wp_walk using wpAny_loadPart' hl
    exact ⟨_, rfl, h⟩
/-- a tuple times 1 is the tuple -/
def rRepT1 (K : PySem.W.Frag) : R2 := fun x y H Q => ∃ l xs, x = .ref l ∧ y = .int 1 ∧ SqT K H l xs ∧ Q (.ref l) H
theorem op_repT1 {X : Cx} : OpR X (binaryOp .Mult) (rRepT1 X.K) := by
  intro pins s σ H x y v u Q I rx ry h
  obtain ⟨l, xs, rfl, rfl, hT, q⟩ := h
  cases rx
  obtain ⟨t, rfl⟩ := ry
  obtain ⟨its, r, ⟨⟨cls, dd, data, sl⟩, ho, hc, n, hd⟩, hs⟩ := I.tuple hT
  simp only at hc hd
  subst hc hd
  refine wpAny_binaryOp_repeat_ref (T := "tuple") (U := "int") (by decide) ⟨_, ho, rfl⟩ (fun s' => typeIs_int s' 1 t) noFill_tuple_mul F.fills_int_mul F.slot_int_rmul repeat_tuple F.slot_int_index.lookup
    (call_meets F.slot_int_rmul (typeIs_int s 1 t) F.entry_int_rmul (F.args_int_rmul_2 _ _) (int_rmul_tuple 1 t l its.toArray n dd sl)
      ⟨ho, rfl, ⟨_, ho, rfl⟩, call_meets F.slot_tuple_mul ⟨_, ho, rfl⟩ F.entry_tuple_mul (F.args_tuple_mul_2 _ _) (tuple_mulW1 l its.toArray n sl dd t) ⟨ho, ?_⟩⟩)
  exact ⟨.ref l, H, I, rfl, q⟩
section
variable {X : Cx} {W : WX}
theorem OA.mul : OA X W (binaryOp .Mult) mulD := by
  refine ⟨_, op_mulX.or (op_rep.or (op_repT.or op_repT1)), fun G σ H F ρ x y dx dy Q S rx ry hg => ?_⟩
  cases rx with
  | int i =>
    cases ry with
    | int j =>
      simp only [mulD] at hg
      split at hg
      · rename_i hz; exact .inl ⟨i, j, rfl, rfl, hz, hg H F S Sm.refl _ (.int _)⟩
      · exact hg.elim
    | _ => exact hg.elim
  | lst hx rx =>
    cases ry with
    | int k =>
      simp only [mulD] at hg
      split at hg
      · rename_i hz
        exact .inr (.inl ⟨_, k, _, rfl, rfl, S.sub _ _ hx, hz.1, hz.2.1, by rw [rx.length]; exact hz.2.2, fun p hp => newLst S (reps_rep rx _) hg hp⟩)
      · exact hg.elim
    | _ => exact hg.elim
  | tup hx rx =>
    cases ry with
    | int k =>
      simp only [mulD] at hg
      split at hg
      · rename_i hz
        subst hz
        exact .inr (.inr (.inr ⟨_, _, rfl, rfl, SqTm S.sub hx, hg H F S Sm.refl _ (.tup hx rx)⟩))
      split at hg
      · rename_i hz
        refine .inr (.inr (.inl ⟨_, k, _, rfl, rfl, SqTm S.sub hx, ?_, hz.2.1, hz.2.2.1, by rw [rx.length]; exact hz.2.2.2, fun p hp => newTup S (reps_rep rx _) hg hp⟩))
        intro e
        have := rx.length
        rw [e] at this
        exact hz.1 (List.eq_nil_of_length_eq_zero this.symm)
      · exact hg.elim
    | _ => exact hg.elim
  | _ => exact hg.elim
theorem UA.neg : UA X W (unaryOp .USub) negD := by
  refine ⟨_, un_neg, fun G σ H F ρ x dx Q S rx hg => ?_⟩
  cases rx with
  | int i => exact ⟨i, rfl, hg H F S Sm.refl _ (.int _)⟩
  | _ => exact hg.elim
theorem op_le_str : OpR X (compareOp .LtE) (fun x y H Q => ∃ i j, x = .str i ∧ y = .str j ∧ Q (.bl (!decide (j.cps.toList < i.cps.toList))) H) := by
  intro pins s σ H x y v u Q I rx ry h
  obtain ⟨i, j, rfl, rfl, q⟩ := h
  obtain ⟨t, rfl⟩ := rx
  obtain ⟨t', rfl⟩ := ry
  exact PySem.P.le_str (fin_bl I q (by simp))
theorem OA.lt : OA X W (compareOp .Lt) ltD := by
  refine ⟨_, op_lt.or op_lt_str, fun G σ H F ρ x y dx dy Q S rx ry hg => ?_⟩
  cases rx with
  | int i =>
    cases ry with
    | int j => exact .inl ⟨i, j, rfl, rfl, hg H F S Sm.refl _ (.bl _)⟩
    | _ => exact hg.elim
  | str i =>
    cases ry with
    | str j => exact .inr ⟨i, j, rfl, rfl, hg H F S Sm.refl _ (.bl _)⟩
    | _ => exact hg.elim
  | _ => exact hg.elim
theorem OA.le : OA X W (compareOp .LtE) leD := by
  refine ⟨_, op_le.or op_le_str, fun G σ H F ρ x y dx dy Q S rx ry hg => ?_⟩
  cases rx with
  | int i =>
    cases ry with
    | int j => exact .inl ⟨i, j, rfl, rfl, hg H F S Sm.refl _ (.bl _)⟩
    | _ => exact hg.elim
  | str i =>
    cases ry with
    | str j => exact .inr ⟨i, j, rfl, rfl, hg H F S Sm.refl _ (.bl _)⟩
    | _ => exact hg.elim
  | _ => exact hg.elim
theorem OA.gt : OA X W (compareOp .Gt) gtD := .ofI op_gt (fun G σ H F ρ i j Q S hg => ⟨i, j, rfl, rfl, hg H F S Sm.refl _ (.bl _)⟩) fun dx dy => by
  cases dx <;> cases dy <;> first | exact .inl rfl | exact .inr ⟨_, _, rfl, rfl⟩
theorem OA.ge : OA X W (compareOp .GtE) geD := .ofI op_ge (fun G σ H F ρ i j Q S hg => ⟨i, j, rfl, rfl, hg H F S Sm.refl _ (.bl _)⟩) fun dx dy => by
  cases dx <;> cases dy <;> first | exact .inl rfl | exact .inr ⟨_, _, rfl, rfl⟩
def rEqP (K : PySem.W.Frag) : R2 := fun x y H Q => ∃ d e, Dp K H x d ∧ Dp K H y e ∧ d.plain = true ∧ e.plain = true ∧ d.depth ≤ 12 ∧ Q (.bl (PyData.eqv d e)) H
def rNeP (K : PySem.W.Frag) : R2 := fun x y H Q => ∃ d e, Dp K H x d ∧ Dp K H y e ∧ d.plain = true ∧ e.plain = true ∧ d.depth ≤ 12 ∧ Q (.bl (!PyData.eqv d e)) H
theorem op_eqP (hu : X.A.units + 64 < cLine) : OpR X (compareOp .Eq) (rEqP X.K) := by
  intro pins s σ H x y v u Q I rx ry h
  obtain ⟨d, e, hd, he, sd, se, hz, q⟩ := h
  obtain ⟨as, r1⟩ := Dp.reads I d x v hd rx
  obtain ⟨bs, r2⟩ := Dp.reads I e y u he ry
  exact SeqAt.eq_plain r1 r2 sd se (by omega) ⟨.bl _, H, I, rfl, q⟩
theorem op_neP (hu : X.A.units + 64 < cLine) : OpR X (compareOp .NotEq) (rNeP X.K) := by
  intro pins s σ H x y v u Q I rx ry h
  obtain ⟨d, e, hd, he, sd, se, hz, q⟩ := h
  obtain ⟨as, r1⟩ := Dp.reads I d x v hd rx
  obtain ⟨bs, r2⟩ := Dp.reads I e y u he ry
  exact SeqAt.ne_plain r1 r2 sd se (by omega) ⟨.bl _, H, I, rfl, q⟩
theorem OA.eq (hu : X.A.units + 64 < cLine) : OA X W (compareOp .Eq) eqD := by
  refine ⟨_, op_eqP hu, fun G σ H F ρ x y dx dy Q S rx ry hg => ?_⟩
  unfold eqD at hg
  split at hg
  · rename_i hz
    have p1 := okD_py 12 dx hz.1
    have p2 := okD_py 12 dy hz.2
    exact ⟨py dx, py dy, rep_dp 12 (rx.mono S.sub) hz.1, rep_dp 12 (ry.mono S.sub) hz.2, p1.1, p2.1, p1.2, hg H F S Sm.refl _ (.bl _)⟩
  · exact hg.elim
theorem OA.ne (hu : X.A.units + 64 < cLine) : OA X W (compareOp .NotEq) neD := by
  refine ⟨_, op_neP hu, fun G σ H F ρ x y dx dy Q S rx ry hg => ?_⟩
  unfold neD at hg
  split at hg
  · rename_i hz
    have p1 := okD_py 12 dx hz.1
    have p2 := okD_py 12 dy hz.2
    exact ⟨py dx, py dy, rep_dp 12 (rx.mono S.sub) hz.1, rep_dp 12 (ry.mono S.sub) hz.2, p1.1, p2.1, p1.2, hg H F S Sm.refl _ (.bl _)⟩
  · exact hg.elim
theorem rep_non {K : PySem.W.Frag} {H : Hp} {v : V} {d : D} (r : Rep K H v d) : decide (v = .non) = isNon d := by
  cases r <;> simp [isNon]
theorem OA.isN : OA X W (compareOp .Is) isD := by
  refine ⟨_, op_isN, fun G σ H F ρ x y dx dy Q S rx ry hg => ?_⟩
  cases ry with
  | non => exact ⟨rfl, by rw [rep_non rx]; exact hg H F S Sm.refl _ (.bl _)⟩
  | _ => exact hg.elim
theorem OA.notN : OA X W (compareOp .IsNot) isntD := by
  refine ⟨_, op_notN, fun G σ H F ρ x y dx dy Q S rx ry hg => ?_⟩
  cases ry with
  | non => exact ⟨rfl, by rw [rep_non rx]; exact hg H F S Sm.refl _ (.bl _)⟩
  | _ => exact hg.elim
def rInP (K : PySem.W.Frag) : R2 := fun x y H Q => ∃ d xs, Dp K H x d ∧ (Dp K H y (.tuple xs) ∨ Dp K H y (.list xs)) ∧ d.plain = true ∧ PyData.plainAll xs = true ∧ d.depth ≤ 12 ∧ Q (.bl (xs.any fun z => PyData.eqv z d)) H
def rNinP (K : PySem.W.Frag) : R2 := fun x y H Q => ∃ d xs, Dp K H x d ∧ (Dp K H y (.tuple xs) ∨ Dp K H y (.list xs)) ∧ d.plain = true ∧ PyData.plainAll xs = true ∧ d.depth ≤ 12 ∧ Q (.bl (!xs.any fun z => PyData.eqv z d)) H
theorem op_inP (hu : X.A.units + 64 < cLine) : OpR X (compareOp .In) (rInP X.K) := by
  intro pins s σ H x y v u Q I rx ry h
  obtain ⟨d, xs, hd, he, sd, se, hz, q⟩ := h
  obtain ⟨as, r1⟩ := Dp.reads I d x v hd rx
  rcases he with he | he
  · obtain ⟨bs, r2⟩ := Dp.reads I _ y u he ry
    exact SeqAt.in_tuple_data r2 r1 se sd (by omega) ⟨.bl _, H, I, rfl, q⟩
  · obtain ⟨bs, r2⟩ := Dp.reads I _ y u he ry
    exact SeqAt.in_list_data r2 r1 se sd (by omega) ⟨.bl _, H, I, rfl, q⟩
theorem op_ninP (hu : X.A.units + 64 < cLine) : OpR X (compareOp .NotIn) (rNinP X.K) := by
  intro pins s σ H x y v u Q I rx ry h
  obtain ⟨d, xs, hd, he, sd, se, hz, q⟩ := h
  obtain ⟨as, r1⟩ := Dp.reads I d x v hd rx
  rcases he with he | he
  · obtain ⟨bs, r2⟩ := Dp.reads I _ y u he ry
    exact SeqAt.notIn_tuple_data r2 r1 se sd (by omega) ⟨.bl _, H, I, rfl, q⟩
  · obtain ⟨bs, r2⟩ := Dp.reads I _ y u he ry
    exact SeqAt.notIn_list_data r2 r1 se sd (by omega) ⟨.bl _, H, I, rfl, q⟩
theorem any_py (a : D) : ∀ xs : List D, (pys xs).any (fun z => PyData.eqv z (py a)) = xs.any fun y => eqv y a
  | [] => rfl
  | x :: xs => by simp only [pys, List.any_cons, any_py a xs, eqv]
theorem OA.in_ (hu : X.A.units + 64 < cLine) : OA X W (compareOp .In) inD := by
  refine ⟨_, op_in_str.or (op_inP hu), fun G σ H F ρ x y dx dy Q S rx ry hg => ?_⟩
  cases ry with
  | str b =>
    cases rx with
    | str a => exact .inl ⟨a, b, rfl, rfl, hg H F S Sm.refl _ (.bl _)⟩
    | _ => exact hg.elim
  | @tup a xs ds hy ry =>
    have hg : Good X.K G W σ F ((if okD 12 dx = true ∧ okDs 12 ds = true then FR.ok (D.bl (ds.any fun y => eqv y dx)) else .stuck).lift ρ) (PD X.K Q) := by cases dx <;> exact hg
    split at hg
    · rename_i hz
      have p1 := okD_py 12 dx hz.1
      exact .inr ⟨py dx, pys ds, rep_dp 12 (rx.mono S.sub) hz.1, .inl (.tup (SqTm S.sub hy) (reps_dp 12 (ry.mono S.sub) hz.2)), p1.1, (okDs_py 12 ds hz.2).1, p1.2, by rw [any_py]; exact hg H F S Sm.refl _ (.bl _)⟩
    · exact hg.elim
  | @lst a xs ds hy ry =>
    have hg : Good X.K G W σ F ((if okD 12 dx = true ∧ okDs 12 ds = true then FR.ok (D.bl (ds.any fun y => eqv y dx)) else .stuck).lift ρ) (PD X.K Q) := by cases dx <;> exact hg
    split at hg
    · rename_i hz
      have p1 := okD_py 12 dx hz.1
      exact .inr ⟨py dx, pys ds, rep_dp 12 (rx.mono S.sub) hz.1, .inr (.lst (.of (S.sub _ _ hy)) (reps_dp 12 (ry.mono S.sub) hz.2)), p1.1, (okDs_py 12 ds hz.2).1, p1.2, by rw [any_py]; exact hg H F S Sm.refl _ (.bl _)⟩
    · exact hg.elim
  | _ => cases dx <;> exact hg.elim
theorem OA.notIn (hu : X.A.units + 64 < cLine) : OA X W (compareOp .NotIn) ninD := by
  refine ⟨_, op_notin_str.or (op_ninP hu), fun G σ H F ρ x y dx dy Q S rx ry hg => ?_⟩
  cases ry with
  | str b =>
    cases rx with
    | str a => exact .inl ⟨a, b, rfl, rfl, hg H F S Sm.refl _ (.bl _)⟩
    | _ => exact hg.elim
  | @tup a xs ds hy ry =>
    have hg : Good X.K G W σ F ((if okD 12 dx = true ∧ okDs 12 ds = true then FR.ok (D.bl (!ds.any fun y => eqv y dx)) else .stuck).lift ρ) (PD X.K Q) := by cases dx <;> exact hg
    split at hg
    · rename_i hz
      have p1 := okD_py 12 dx hz.1
      exact .inr ⟨py dx, pys ds, rep_dp 12 (rx.mono S.sub) hz.1, .inl (.tup (SqTm S.sub hy) (reps_dp 12 (ry.mono S.sub) hz.2)), p1.1, (okDs_py 12 ds hz.2).1, p1.2, by rw [any_py]; exact hg H F S Sm.refl _ (.bl _)⟩
    · exact hg.elim
  | @lst a xs ds hy ry =>
    have hg : Good X.K G W σ F ((if okD 12 dx = true ∧ okDs 12 ds = true then FR.ok (D.bl (!ds.any fun y => eqv y dx)) else .stuck).lift ρ) (PD X.K Q) := by cases dx <;> exact hg
    split at hg
    · rename_i hz
      have p1 := okD_py 12 dx hz.1
      exact .inr ⟨py dx, pys ds, rep_dp 12 (rx.mono S.sub) hz.1, .inr (.lst (.of (S.sub _ _ hy)) (reps_dp 12 (ry.mono S.sub) hz.2)), p1.1, (okDs_py 12 ds hz.2).1, p1.2, by rw [any_py]; exact hg H F S Sm.refl _ (.bl _)⟩
    · exact hg.elim
  | _ => cases dx <;> exact hg.elim
/-! ### built-in calls -/
theorem reps1 {K : PySem.W.Frag} {F : Hp} {vs : List V} {d : D} (r : Reps K F vs [d]) : ∃ v, vs = [v] ∧ Rep K F v d := by
  cases r with
  | cons h r => cases r; exact ⟨_, rfl, h⟩
theorem reps2 {K : PySem.W.Frag} {F : Hp} {vs : List V} {d e : D} (r : Reps K F vs [d, e]) : ∃ v u, vs = [v, u] ∧ Rep K F v d ∧ Rep K F u e := by
  cases r with
  | cons h r =>
    obtain ⟨u, rfl, h2⟩ := reps1 r
    exact ⟨_, u, rfl, h, h2⟩
theorem CA.len : CA X W (.builtin "len") lenD := by
  refine ⟨_, call_len, fun G σ H F ρ vs ds Q S r hg => ?_⟩
  match ds, hg with
  | [.str x], hg =>
    obtain ⟨v, rfl, rv⟩ := reps1 r
    cases rv
    simp only [lenD] at hg
    split at hg
    · rename_i hz; exact ⟨_, x.length, rfl, ⟨hz, rfl⟩, hg H F S Sm.refl _ (.int _)⟩
    · exact hg.elim
  | [.tup xs], hg =>
    obtain ⟨v, rfl, rv⟩ := reps1 r
    cases rv with
    | tup hx rx => exact ⟨_, xs.length, rfl, .inr ⟨_, SqTm S.sub hx, rx.length.symm⟩, hg H F S Sm.refl _ (.int _)⟩
  | [.lst xs], hg =>
    obtain ⟨v, rfl, rv⟩ := reps1 r
    cases rv with
    | lst hx rx => exact ⟨_, xs.length, rfl, .inl ⟨_, .of (S.sub _ _ hx), rx.length.symm⟩, hg H F S Sm.refl _ (.int _)⟩
  | [.frz xs], hg =>
    obtain ⟨v, rfl, rv⟩ := reps1 r
    cases rv with
    | frz hx rx => exact ⟨_, xs.length, rfl, .inl ⟨_, SqLm S.sub hx, rx.length.symm⟩, hg H F S Sm.refl _ (.int _)⟩
  | [], hg => exact hg.elim
  | _ :: _ :: _, hg => exact (by simp only [lenD] at hg; exact hg.elim)
  | [.non], hg => exact hg.elim
  | [.bl _], hg => exact hg.elim
  | [.int _], hg => exact hg.elim
  | [.obj _ _ _], hg => exact hg.elim
  | [.opq _], hg => exact hg.elim
theorem one_lst {g : List D → FR D} {h : List D → FR D} (e : ∀ ds, g ds = match ds with | [.lst xs] => h xs | _ => .stuck) {K : PySem.W.Frag} {G : Ent} {σ : St} {H F : Hp} {ρ : Ro} {vs : List V} {ds : List D} {Q : VK} (S : Stt K G σ H F ρ) (r : Reps K F vs ds)
    (hg : Good K G W σ F ((g ds).lift ρ) (PD K Q)) : ∃ a ws xs, vs = [V.ref a] ∧ H a = some (.lst ws) ∧ Reps K F ws xs ∧ Good K G W σ F ((h xs).lift ρ) (PD K Q) := by
  rw [e] at hg
  split at hg
  · obtain ⟨v, rfl, rv⟩ := reps1 r
    cases rv with
    | lst hx rx => exact ⟨_, _, _, rfl, S.sub _ _ hx, rx, hg⟩
  · exact hg.elim
theorem CA.sum (hc : X.calm = true) : CA X W (.builtin "sum") sumD := by
  refine ⟨_, cr_sum hc, fun G σ H F ρ vs ds Q S r hg => ?_⟩
  obtain ⟨a, ws, xs, rfl, h1, h2, h3⟩ := one_lst (h := fun xs => match intsD xs with | some ns => .ok (.int ns.sum) | none => .stuck) (fun ds => by unfold sumD; split <;> rfl) S r hg
  cases e : intsD xs with
  | none => rw [e] at h3; exact h3.elim
  | some ns =>
    rw [e] at h3
    rw [reps_ints h2 e] at h1
    exact ⟨a, ns, rfl, .of h1, h3 H F S Sm.refl _ (.int _)⟩
theorem CA.all (hc : X.calm = true) : CA X W (.builtin "all") allD := by
  refine ⟨_, cr_all hc, fun G σ H F ρ vs ds Q S r hg => ?_⟩
  obtain ⟨a, ws, xs, rfl, h1, h2, h3⟩ := one_lst (h := fun xs => match blsD xs with | some ns => .ok (.bl (ns.all id)) | none => .stuck) (fun ds => by unfold allD; split <;> rfl) S r hg
  cases e : blsD xs with
  | none => rw [e] at h3; exact h3.elim
  | some ns =>
    rw [e] at h3
    rw [reps_bls h2 e] at h1
    exact ⟨a, ns, rfl, .of h1, h3 H F S Sm.refl _ (.bl _)⟩
theorem CA.any (hc : X.calm = true) : CA X W (.builtin "any") anyD := by
  refine ⟨_, cr_any hc, fun G σ H F ρ vs ds Q S r hg => ?_⟩
  obtain ⟨a, ws, xs, rfl, h1, h2, h3⟩ := one_lst (h := fun xs => match blsD xs with | some ns => .ok (.bl (ns.any id)) | none => .stuck) (fun ds => by unfold anyD; split <;> rfl) S r hg
  cases e : blsD xs with
  | none => rw [e] at h3; exact h3.elim
  | some ns =>
    rw [e] at h3
    rw [reps_bls h2 e] at h1
    exact ⟨a, ns, rfl, .of h1, h3 H F S Sm.refl _ (.bl _)⟩
theorem CA.tuple : CA X W (.type "tuple") tupleD := by
  refine ⟨_, call_tuple_of, fun G σ H F ρ vs ds Q S r hg => ?_⟩
  unfold tupleD at hg
  split at hg
  · obtain ⟨v, rfl, rv⟩ := reps1 r
    cases rv with
    | lst hx rx => exact ⟨_, _, rfl, .inl ⟨.of (S.sub _ _ hx), fun l hl => newTup S rx hg hl⟩⟩
  · obtain ⟨v, rfl, rv⟩ := reps1 r
    cases rv with
    | tup hx rx => exact ⟨_, _, rfl, .inr ⟨SqTm S.sub hx, hg H F S Sm.refl _ (.tup hx rx)⟩⟩
  · exact hg.elim
theorem CA.list : CA X W (.type "list") listD := by
  refine ⟨_, call_list_of, fun G σ H F ρ vs ds Q S r hg => ?_⟩
  unfold listD at hg
  split at hg
  · obtain ⟨v, rfl, rv⟩ := reps1 r
    cases rv with
    | lst hx rx => exact ⟨_, _, rfl, .inl (.of (S.sub _ _ hx)), fun l hl => newLst S rx hg hl⟩
  · obtain ⟨v, rfl, rv⟩ := reps1 r
    cases rv with
    | tup hx rx => exact ⟨_, _, rfl, .inr (SqTm S.sub hx), fun l hl => newLst S rx hg hl⟩
  · obtain ⟨v, rfl, rv⟩ := reps1 r
    cases rv with
    | frz hx rx => exact ⟨_, _, rfl, .inl (SqLm S.sub hx), fun l hl => newLst S rx hg hl⟩
  · exact hg.elim
theorem CA.int : CA X W (.type "int") intD := by
  refine ⟨_, call_int1, fun G σ H F ρ vs ds Q S r hg => ?_⟩
  unfold intD at hg
  split at hg
  · obtain ⟨v, rfl, rv⟩ := reps1 r
    cases rv
    exact .inl ⟨_, rfl, hg H F S Sm.refl _ (.int _)⟩
  · obtain ⟨v, rfl, rv⟩ := reps1 r
    cases rv
    exact .inr ⟨_, rfl, hg H F S Sm.refl _ (.int _)⟩
  · exact hg.elim
theorem CA.abs : CA X W (.builtin "abs") absD := by
  refine ⟨_, call_abs, fun G σ H F ρ vs ds Q S r hg => ?_⟩
  unfold absD at hg
  split at hg
  · obtain ⟨v, rfl, rv⟩ := reps1 r
    cases rv
    exact ⟨_, rfl, hg H F S Sm.refl _ (.int _)⟩
  · exact hg.elim
theorem CA.max2 (hc : X.calm = true) : CA X W (.builtin "max") max2D := by
  refine ⟨_, call_max2 hc, fun G σ H F ρ vs ds Q S r hg => ?_⟩
  unfold max2D at hg
  split at hg
  · obtain ⟨v, u, rfl, rv, ru⟩ := reps2 r
    cases rv; cases ru
    exact ⟨_, _, rfl, hg H F S Sm.refl _ (.int _)⟩
  · exact hg.elim
theorem CA.min2 (hc : X.calm = true) : CA X W (.builtin "min") min2D := by
  refine ⟨_, call_min2 hc, fun G σ H F ρ vs ds Q S r hg => ?_⟩
  unfold min2D at hg
  split at hg
  · obtain ⟨v, u, rfl, rv, ru⟩ := reps2 r
    cases rv; cases ru
    exact ⟨_, _, rfl, hg H F S Sm.refl _ (.int _)⟩
  · exact hg.elim
/-- isinstance of a built-in class -/
def tyN : D → Option String
  | .non => some "NoneType" | .bl _ => some "bool" | .int _ => some "int" | .str _ => some "str" | .tup _ => some "tuple" | .lst _ => some "list" | _ => none
theorem isKind_kit {K : PySem.W.Frag} {T : String} {d : D} {b : Bool} (h : isKind T d = some b) : ∃ t, tyN d = some t ∧ kitB t T = some b := by
  have key0 : ∀ t ∈ ["NoneType", "bool", "int", "str", "tuple", "list"], ∀ T ∈ ["int", "bool", "str", "tuple", "list", "dict"], kitB t T = some (decide (t = T) || decide (t = "bool" ∧ T = "int")) := by decide +kernel
  have key : ∀ t T : String, t ∈ ["NoneType", "bool", "int", "str", "tuple", "list"] → T ∈ ["int", "bool", "str", "tuple", "list", "dict"] → kitB t T = some (decide (t = T) || decide (t = "bool" ∧ T = "int")) := fun t T h1 h2 => key0 t h1 T h2
  cases d with
  | non =>
    refine ⟨_, rfl, ?_⟩
    simp only [isKind] at h
    split at h
    · rename_i hT; cases h
      rcases hT with rfl | rfl | rfl | rfl | rfl | rfl <;> exact key _ _ (by decide) (by decide)
    · cases h
  | bl _ =>
    refine ⟨_, rfl, ?_⟩
    simp only [isKind] at h
    split at h
    · rename_i hT; cases h
      rcases hT with rfl | rfl <;> exact key _ _ (by decide) (by decide)
    · split at h
      · rename_i hT; cases h
        rcases hT with rfl | rfl | rfl | rfl <;> exact key _ _ (by decide) (by decide)
      · cases h
  | int _ =>
    refine ⟨_, rfl, ?_⟩
    simp only [isKind] at h
    split at h
    · rename_i hT; cases h
      subst hT; exact key _ _ (by decide) (by decide)
    · split at h
      · rename_i hT; cases h
        rcases hT with rfl | rfl | rfl | rfl | rfl <;> exact key _ _ (by decide) (by decide)
      · cases h
  | str _ =>
    refine ⟨_, rfl, ?_⟩
    simp only [isKind] at h
    split at h
    · rename_i hT; cases h
      subst hT; exact key _ _ (by decide) (by decide)
    · split at h
      · rename_i hT; cases h
        rcases hT with rfl | rfl | rfl | rfl | rfl <;> exact key _ _ (by decide) (by decide)
      · cases h
  | tup _ =>
    refine ⟨_, rfl, ?_⟩
    simp only [isKind] at h
    split at h
    · rename_i hT; cases h
      subst hT; exact key _ _ (by decide) (by decide)
    · split at h
      · rename_i hT; cases h
        rcases hT with rfl | rfl | rfl | rfl | rfl <;> exact key _ _ (by decide) (by decide)
      · cases h
  | lst _ =>
    refine ⟨_, rfl, ?_⟩
    simp only [isKind] at h
    split at h
    · rename_i hT; cases h
      subst hT; exact key _ _ (by decide) (by decide)
    · split at h
      · rename_i hT; cases h
        rcases hT with rfl | rfl | rfl | rfl | rfl <;> exact key _ _ (by decide) (by decide)
      · cases h
  | frz _ => cases h
  | obj _ _ _ => cases h
  | opq _ => cases h
theorem tyx_of {K : PySem.W.Frag} {H : Hp} {v : V} {d : D} {t : String} (r : Rep K H v d) (h : tyN d = some t) : TyX K H v (.type t) := by
  cases r with
  | non => cases h; exact .base .non
  | bl b => cases h; exact .base (.bl b)
  | int i => cases h; exact .base (.int i)
  | str x => cases h; exact .base (.str x)
  | tup s r =>
    cases h
    rcases s with (s | ⟨o, s⟩) | ⟨o, its, n, hk, hc, _⟩
    · exact .base (.tup s)
    · exact .fTuple s
    · exact .kTuple hk hc
  | lst s r => cases h; exact .base (.lst s)
  | frz s r => cases h
  | obj _ _ _ _ => cases h
  | opq v => cases h
theorem CA.isi : CA X W (.builtin "isinstance") isiD := by
  refine ⟨_, call_isi, fun G σ H F ρ vs ds Q S r hg => ?_⟩
  unfold isiD at hg
  split at hg
  · rename_i d T
    obtain ⟨v, u, rfl, rv, ru⟩ := reps2 r
    cases ru
    cases e : isKind T d with
    | none => rw [e] at hg; exact hg.elim
    | some b =>
      rw [e] at hg
      obtain ⟨t, e1, e2⟩ := isKind_kit (K := X.K) e
      exact ⟨v, .ty T, .type t, .type T, b, rfl, .ty T, tyx_of (rv.mono S.sub) e1, kit_ty e2, hg H F S Sm.refl _ (.bl b)⟩
  · exact hg.elim
/-! ### subscripts -/
variable {a b e : Expr} {fa fb fl fh : M D} {pos : Pos}
theorem IxR.or {r r' : R2} (h : IxR X r) (h' : IxR X r') : IxR X (fun x y H Q => r x y H Q ∨ r' x y H Q) := by
  intro value slice pins s σ H x y v u Q I rx ry q hs
  rcases q with q | q
  · exact h value slice pins s σ H x y v u Q I rx ry q hs
  · exact h' value slice pins s σ H x y v u Q I rx ry q hs
theorem AE.ix (ha : AE X W a fa) (hb : AE X W b fb) (hs : PlainIx b := by exact fun _ _ => rfl) : AE X W (.Subscript a b pos) (m2 ixD fa fb) := by
  obtain ⟨ta, pa, qa⟩ := ha
  obtain ⟨tb, pb, qb⟩ := hb
  refine ⟨_, pe_ix (IxR.or ix_list (IxR.or ix_tup ix_str)) pa pb hs, fun G σ H F ρ Q S hg => qa G σ H F ρ _ S (hg.bind fun dx ρ1 H1 F1 S1 s1 g1 v r1 => qb G σ H1 F1 ρ1 _ S1 (g1.bind fun dy ρ2 H2 F2 S2 s2 g2 u r2 => ?_))⟩
  have r1 := r1.mono s2
  cases r2 with
  | int i =>
    cases r1 with
    | str x =>
      simp only [ixD] at g2
      split at g2
      · rename_i hz
        split at g2
        · rename_i c hc
          exact .inr (.inr ⟨x, i, c, rfl, rfl, hz, hc, g2 H2 F2 S2 Sm.refl _ (.str _)⟩)
        · exact g2.elim
      · exact g2.elim
    | tup hx rx =>
      simp only [ixD] at g2
      split at g2
      · rename_i d hd
        obtain ⟨w, e1, rw_⟩ := reps_at rx hd
        exact .inr (.inl ⟨_, _, i, w, rfl, rfl, SqTm S2.sub hx, e1, g2 H2 F2 S2 Sm.refl _ rw_⟩)
      · exact g2.elim
    | lst hx rx =>
      simp only [ixD] at g2
      split at g2
      · rename_i d hd
        obtain ⟨w, e1, rw_⟩ := reps_at rx hd
        exact .inl ⟨_, _, i, w, rfl, rfl, .of (S2.sub _ _ hx), e1, g2 H2 F2 S2 Sm.refl _ rw_⟩
      · exact g2.elim
    | frz hx rx =>
      simp only [ixD] at g2
      split at g2
      · rename_i d hd
        obtain ⟨w, e1, rw_⟩ := reps_at rx hd
        exact .inl ⟨_, _, i, w, rfl, rfl, SqLm S2.sub hx, e1, g2 H2 F2 S2 Sm.refl _ rw_⟩
      · exact g2.elim
    | _ => exact g2.elim
  | _ => exact (by cases dx <;> exact g2.elim)
/-- an end of a slice -/
def AO (X : Cx) (W : WX) (e : Option Expr) (f : M (Option Int)) : Prop := ∃ t, PO X e t ∧ ∀ G σ H F ρ Q, Stt X.K G σ H F ρ → Good X.K G W σ F (f ρ) (fun o _ H' _ => Q o H') → t σ H Q
def mONone : M (Option Int) := fun ρ => .ok none ρ
def mOSome (f : M D) : M (Option Int) := fun ρ => (f ρ).bind fun d ρ => match d with
  | .int i => .ok (some i) ρ
  | _ => .stuck
theorem AO.none : AO X W none mONone := ⟨_, po_none, fun G σ H F ρ Q S hg => hg H F S Sm.refl⟩
theorem AO.some (h : AE X W e fa) : AO X W (some e) (mOSome fa) := by
  obtain ⟨t, p, q⟩ := h
  refine ⟨_, po_some p, fun G σ H F ρ Q S hg => q G σ H F ρ _ S (hg.bind fun d ρ1 H1 F1 S1 s1 g1 v r1 => ?_)⟩
  cases r1 with
  | int i => exact ⟨i, rfl, g1 H1 F1 S1 Sm.refl⟩
  | _ => exact g1.elim
def mSlice (f : M D) (l h : M (Option Int)) : M D := fun ρ => (f ρ).bind fun x ρ => (l ρ).bind fun lo ρ => (h ρ).bind fun hi ρ => (sliceD x lo hi).lift ρ
theorem reps_cut {K : PySem.W.Frag} {H : Hp} {vs : List V} {ds : List D} (r : Reps K H vs ds) (lo hi : Option Int) : Reps K H (cutV vs lo hi) (cutD ds lo hi) := by
  unfold cutV cutD
  rw [r.length]
  exact (r.drop _).take _
theorem cutD_whole {ds : List D} {lo hi : Option Int} (h : HT.sIx ds.length 0 lo = 0 ∧ HT.sIx ds.length ds.length hi = ds.length) : cutD ds lo hi = ds := by
  unfold cutD
  rw [h.1, h.2]
  simp
theorem AE.slice {lo hi : Option Expr} {p2 : Pos} {ml mh : M (Option Int)} (he : AE X W e fa) (hl : AO X W lo ml) (hh : AO X W hi mh) : AE X W (.Subscript e (.Slice lo hi Option.none p2) pos) (mSlice fa ml mh) := by
  obtain ⟨t, p, q⟩ := he
  obtain ⟨tl, pl, ql⟩ := hl
  obtain ⟨th, ph, qh⟩ := hh
  refine ⟨_, pe_slice (sl_list.or (sl_tupA.or sl_str)) p pl ph, fun G σ H F ρ Q S hg => q G σ H F ρ _ S (hg.bind fun d ρ1 H1 F1 S1 s1 g1 v r1 => ql G σ H1 F1 ρ1 _ S1 (g1.bind fun o ρ2 H2 F2 S2 s2 g2 => qh G σ H2 F2 ρ2 _ S2 (g2.bind fun o' ρ3 H3 F3 S3 s3 g3 => ?_)))⟩
  have r1 := r1.mono (s2.tr s3)
  cases r1 with
  | tup hx rx =>
    refine .inr (.inl ⟨_, _, rfl, SqTm S3.sub hx, fun h => ?_, fun h p hp => newTup S3 (reps_cut rx o o') g3 hp⟩)
    rw [rx.length] at h
    have g3 : Good X.K G W σ F3 (.ok (.tup (cutD _ o o')) ρ3) (PD X.K Q) := g3
    rw [cutD_whole h] at g3
    exact g3 H3 F3 S3 Sm.refl _ (.tup hx rx)
  | lst hx rx => exact .inl ⟨_, _, rfl, .of (S3.sub _ _ hx), fun p hp => newLst S3 (reps_cut rx o o') g3 hp⟩
  | frz hx rx => exact .inl ⟨_, _, rfl, SqLm S3.sub hx, fun p hp => newLst S3 (reps_cut rx o o') g3 hp⟩
  | str z =>
    simp only [sliceD] at g3
    split at g3
    · rename_i hz
      exact .inr (.inr ⟨z, rfl, hz, g3 H3 F3 S3 Sm.refl _ (.str _)⟩)
    · exact g3.elim
  | _ => exact g3.elim
end
end Mr
namespace Mr
open PySem PySem.Spec PyProof.Rows L2

/-! ### what is walked -/
/-- ds come, one a turn, in every later state -/
def ItOk (K : PySem.W.Frag) (J : It) (F : Hp) (ds : List D) : Prop :=
  ∀ (i : Nat) (H F' : Hp), Sm F F' → Sm F' H → (ds.length ≤ i → J.stop i H) ∧ ∀ d, ds[i]? = some d → J.go i H ∧ ∀ x H', J.yld i H x H' → ∃ F'', Aft H F' H' F'' ∧ Rep K F'' x d
theorem ItOk.mono {K : PySem.W.Frag} {J : It} {F F1 : Hp} {ds : List D} (h : ItOk K J F ds) (s : Sm F F1) : ItOk K J F1 ds := fun i H F' s1 s2 => h i H F' (s.tr s1) s2
theorem Aft.refl {H F : Hp} (s : Sm F H) : Aft H F H F := ⟨Sm.refl, s, Sm.refl, fun _ _ e => .inl e⟩
theorem Aft.tup {H F : Hp} (s : Sm F H) {p : Addr} {o : HO} (hp : H p = none) : Aft H F (upd H p o) (upd F p o) :=
  ⟨Sm.updN hp, fun a u h => by
    by_cases e : a = p
    · subst e; rw [upd_same] at h ⊢; exact h
    · rw [upd_ne e] at h ⊢; exact s a u h, Sm.updN (s.none hp), fun a u h => by
    by_cases e : a = p
    · subst e; exact .inr hp
    · rw [upd_ne e] at h; exact .inl h⟩
def AI (X : Cx) (W : WX) (tg it : Expr) (f : M (List D)) : Prop :=
  ∃ wi, PI X tg it wi ∧ ∀ G σ H F ρ R, Stt X.K G σ H F ρ → Good X.K G W σ F (f ρ) (fun ds _ H' F' => ∀ J, ItOk X.K J F' ds → R J H') → wi σ H R

/-- what a for walks: a list, a tuple, a text -/
def walkD : D → FR (List D)
  | .lst xs => .ok xs
  | .frz xs => .ok xs
  | .tup xs => .ok xs
  | .str x => .ok (x.cps.toList.map fun c => .str ⟨#[c]⟩)
  | _ => .stuck
def mWalk (f : M D) : M (List D) := fun ρ => (f ρ).bind fun x ρ => (walkD x).lift ρ
def rangeD (lo hi : Int) : List D := (List.range (hi - lo).toNat).map fun (k : Nat) => .int (lo + (k : Int))
def range1D : List D → FR (List D)
  | [.int j] => if -(2 ^ 62) ≤ j ∧ j < 2 ^ 62 then .ok (rangeD 0 j) else .stuck
  | _ => .stuck
def range2D : List D → FR (List D)
  | [.int i, .int j] => if -(2 ^ 62) ≤ i ∧ i < 2 ^ 62 ∧ -(2 ^ 62) ≤ j ∧ j < 2 ^ 62 then .ok (rangeD i j) else .stuck
  | _ => .stuck
def zipD : List D → FR (List D)
  | [.lst xs, .lst ys] => .ok (xs.zipWith (fun x y => .tup [x, y]) ys)
  | [.tup xs, .tup ys] => .ok (xs.zipWith (fun x y => .tup [x, y]) ys)
  | _ => .stuck
def mItL (g : List D → FR (List D)) (a : M (List D)) : M (List D) := fun ρ => (a ρ).bind fun xs ρ => (g xs).lift ρ

section
variable {X : Cx} {W : WX} {tg : Expr}
def iAny (K : PySem.W.Frag) (tl : TE) : TI := fun σ H R => tl σ H fun x H1 =>
  (∃ a xs, x = .ref a ∧ SqL K H1 a xs ∧ R (Itl K a) H1) ∨ (∃ a xs, x = .ref a ∧ SqT K H1 a xs ∧ R (Itt K a) H1) ∨ ∃ z, x = .str z ∧ R (Its z) H1
theorem one_it {pins : List (Addr × Obj)} {σ : St} {H : Hp} {s : Shared} {R : It → Hp → Prop} {J : It} {tn : Nat → Heap → Prop} {tk : Nat} {o : Obj} (I : Inv X pins σ H s) (T : Turn X.prog X.w X.K tg J [s.heap.objs.size] s.heap.objs.size tn) (h0 : tn 0 (s.heap.push o)) (q : R J H) :
    PIE X pins σ tg R (.ref s.heap.objs.size) { s with heap := s.heap.push o, toks := tk } :=
  ⟨s.heap.objs.size, [s.heap.objs.size], tn, J, H, rfl, I.kept (t' := tk) fun _ _ e => Heap.get?_push_of_some _ e, T, h0, fun b hb => by
    rw [List.mem_singleton] at hb
    subst hb
    exact I.fpOk (Nat.le_refl _) (I.hok.fresh (Nat.le_refl _)), q⟩
theorem pi_any {l : Expr} {tl : TE} (hl : PE X l tl) : PI X tg l (iAny X.K tl) := by
  refine ⟨fun pins s σ H R I h => ?_⟩
  refine thn (hl.run pins s σ H _ I h) fun v s1 ⟨x, H1, I1, r1, q1⟩ => ?_
  rcases q1 with ⟨a, xs, rfl, hq, q⟩ | ⟨a, xs, rfl, hq, q⟩ | ⟨z, rfl, q⟩
  · cases r1
    obtain ⟨its, _, p, _⟩ := I1.list hq
    exact wpAny_pyIter_list p.isList (one_it (tk := s1.toks) I1 (turn_list a _) ⟨_, Heap.get?_push_size _ rfl, rfl, rfl⟩ q)
  · cases r1
    obtain ⟨its, _, p, _⟩ := I1.tuple hq
    exact wpAny_pyIter_tuple (show s1.heap.IsTuple a its.toArray from p) (one_it (tk := s1.toks) I1 (turn_tuple a _) ⟨_, Heap.get?_push_size _ rfl, rfl, rfl⟩ q)
  · obtain ⟨t, rfl⟩ := r1
    cases ha : z.cps.all (· < 128) with
    | false => exact wpAny_pyIter_wide ha (one_it (tk := s1.toks) I1 (turn_str _ z t "str_iterator" (.inr rfl)) ⟨_, Heap.get?_push_size _ rfl, rfl, rfl⟩ q)
    | true => exact wpAny_pyIter_ascii ha (one_it (tk := s1.toks) I1 (turn_str _ z t "str_ascii_iterator" (.inl rfl)) ⟨_, Heap.get?_push_size _ rfl, rfl, rfl⟩ q)
theorem okL {K : PySem.W.Frag} {F : Hp} {a : Addr} {vs : List V} {ds : List D} (h : SqL K F a vs) (r : Reps K F vs ds) : ItOk K (Itl K a) F ds := fun i H F' s1 s2 => by
  have h' : SqL K H a vs := SqLm (s1.tr s2) h
  refine ⟨fun hi => ⟨vs, h', by rw [r.length]; exact hi⟩, fun d hd => ?_⟩
  obtain ⟨v, e, rv⟩ := r.get i hd
  exact ⟨⟨vs, v, h', e⟩, fun x H' ⟨e1, e2⟩ => by
    subst e1
    have := (e2 vs h').symm.trans e
    cases this
    exact ⟨F', .refl s2, rv.mono s1⟩⟩
theorem okT {K : PySem.W.Frag} {F : Hp} {a : Addr} {vs : List V} {ds : List D} (h : SqT K F a vs) (r : Reps K F vs ds) : ItOk K (Itt K a) F ds := fun i H F' s1 s2 => by
  have h' : SqT K H a vs := SqTm (s1.tr s2) h
  refine ⟨fun hi => ⟨vs, h', by rw [r.length]; exact hi⟩, fun d hd => ?_⟩
  obtain ⟨v, e, rv⟩ := r.get i hd
  exact ⟨⟨vs, v, h', e⟩, fun x H' ⟨e1, e2⟩ => by
    subst e1
    have := (e2 vs h').symm.trans e
    cases this
    exact ⟨F', .refl s2, rv.mono s1⟩⟩
theorem okS {K : PySem.W.Frag} {F : Hp} {z : Str} : ItOk K (Its z) F (z.cps.toList.map fun c => .str ⟨#[c]⟩) := fun i H F' s1 s2 => by
  refine ⟨fun hi => ?_, fun d hd => ?_⟩
  · show z.cps.size ≤ i
    simpa using hi
  · rw [List.getElem?_map] at hd
    obtain ⟨c, e, rfl⟩ := Option.map_eq_some_iff.mp hd
    have e' : z.cps[i]? = some c := by simpa using e
    refine ⟨(Array.getElem?_eq_some_iff.mp e').1, fun x H' ⟨e1, c', e2, e3⟩ => ?_⟩
    subst e1
    rw [e'] at e2; cases e2
    subst e3
    exact ⟨F', .refl s2, .str _⟩
theorem okR {K : PySem.W.Frag} {F : Hp} {lo hi : Int} : ItOk K (Itr lo (hi - lo).toNat) F (rangeD lo hi) := fun i H F' s1 s2 => by
  refine ⟨fun hi' => ?_, fun d hd => ?_⟩
  · show (hi - lo).toNat ≤ i
    simpa [rangeD] using hi'
  · unfold rangeD at hd
    rw [List.getElem?_map] at hd
    obtain ⟨c, e, rfl⟩ := Option.map_eq_some_iff.mp hd
    obtain ⟨hl, e⟩ := List.getElem?_eq_some_iff.mp e
    rw [List.getElem_range] at e
    subst e
    refine ⟨by rw [List.length_range] at hl; exact hl, fun x H' ⟨e1, e2⟩ => ?_⟩
    subst e1 e2
    exact ⟨F', .refl s2, .int _⟩
theorem zip_len {α β γ : Type} {f : α → β → γ} {xs : List α} {ys : List β} {i : Nat} (h : (List.zipWith f xs ys).length ≤ i) : xs.length ≤ i ∨ ys.length ≤ i := by
  rw [List.length_zipWith] at h
  omega
theorem zip_get {α β γ : Type} {f : α → β → γ} {xs : List α} {ys : List β} {i : Nat} {d : γ} (h : (List.zipWith f xs ys)[i]? = some d) : ∃ x y, xs[i]? = some x ∧ ys[i]? = some y ∧ d = f x y := by
  rw [List.getElem?_zipWith] at h
  cases e1 : xs[i]? with
  | none => rw [e1] at h; cases h
  | some x =>
    cases e2 : ys[i]? with
    | none => rw [e1, e2] at h; cases h
    | some y => rw [e1, e2] at h; exact ⟨x, y, rfl, rfl, (Option.some.inj h).symm⟩
theorem okZ {K : PySem.W.Frag} {F : Hp} {a b : Addr} {vs us : List V} {ds es : List D} (h : SqL K F a vs) (r : Reps K F vs ds) (h' : SqL K F b us) (r' : Reps K F us es) : ItOk K (Itz K a b) F (ds.zipWith (fun x y => .tup [x, y]) es) := fun i H F' s1 s2 => by
  have h1 := SqLm (s1.tr s2) h
  have h2 := SqLm (s1.tr s2) h'
  refine ⟨fun hi => ⟨vs, us, h1, h2, by rw [r.length, r'.length]; exact zip_len hi⟩, fun d hd => ?_⟩
  obtain ⟨x, y, e1, e2, rfl⟩ := zip_get hd
  obtain ⟨v, f1, rv⟩ := r.get i e1
  obtain ⟨u, f2, ru⟩ := r'.get i e2
  refine ⟨⟨vs, us, v, u, h1, h2, f1, f2⟩, fun z H' ⟨T, x', y', ez, hT, eH, k1, k2⟩ => ?_⟩
  have q1 := (k1 vs h1).symm.trans f1
  have q2 := (k2 us h2).symm.trans f2
  cases q1; cases q2
  subst ez eH
  exact ⟨upd F' T (.tup [v, u]), .tup s2 hT, .tup (.of upd_same) (.cons (rv.mono (s1.tr (Sm.updN (s2.none hT)))) (.cons (ru.mono (s1.tr (Sm.updN (s2.none hT)))) .nil))⟩
theorem okZT {K : PySem.W.Frag} {F : Hp} {a b : Addr} {vs us : List V} {ds es : List D} (h : SqT K F a vs) (r : Reps K F vs ds) (h' : SqT K F b us) (r' : Reps K F us es) : ItOk K (RZ.ItzT K a b) F (ds.zipWith (fun x y => .tup [x, y]) es) := fun i H F' s1 s2 => by
  have h1 := SqTm (s1.tr s2) h
  have h2 := SqTm (s1.tr s2) h'
  refine ⟨fun hi => ⟨vs, us, h1, h2, by rw [r.length, r'.length]; exact zip_len hi⟩, fun d hd => ?_⟩
  obtain ⟨x, y, e1, e2, rfl⟩ := zip_get hd
  obtain ⟨v, f1, rv⟩ := r.get i e1
  obtain ⟨u, f2, ru⟩ := r'.get i e2
  refine ⟨⟨vs, us, v, u, h1, h2, f1, f2⟩, fun z H' ⟨T, x', y', ez, hT, eH, k1, k2⟩ => ?_⟩
  have q1 := (k1 vs h1).symm.trans f1
  have q2 := (k2 us h2).symm.trans f2
  cases q1; cases q2
  subst ez eH
  exact ⟨upd F' T (.tup [v, u]), .tup s2 hT, .tup (.of upd_same) (.cons (rv.mono (s1.tr (Sm.updN (s2.none hT)))) (.cons (ru.mono (s1.tr (Sm.updN (s2.none hT)))) .nil))⟩
variable {e e2 : Expr} {fe : M D} {fs : M (List D)} {p pos : Pos}
theorem AI.any (h : AE X W e fe) : AI X W tg e (mWalk fe) := by
  obtain ⟨t, pe, qe⟩ := h
  refine ⟨_, pi_any pe, fun G σ H F ρ R S hg => qe G σ H F ρ _ S (hg.bind fun d ρ1 H1 F1 S1 s1 g1 v r1 => ?_)⟩
  cases r1 with
  | lst hx rx => exact .inl ⟨_, _, rfl, .of (S1.sub _ _ hx), g1 H1 F1 S1 Sm.refl _ (okL (.of hx) rx)⟩
  | frz hx rx => exact .inl ⟨_, _, rfl, SqLm S1.sub hx, g1 H1 F1 S1 Sm.refl _ (okL hx rx)⟩
  | tup hx rx => exact .inr (.inl ⟨_, _, rfl, SqTm S1.sub hx, g1 H1 F1 S1 Sm.refl _ (okT hx rx)⟩)
  | str z => exact .inr (.inr ⟨z, rfl, g1 H1 F1 S1 Sm.refl _ okS⟩)
  | _ => exact g1.elim
theorem AI.range1 (hg : Gl X "range") (hm : X.mg "range" = none) (ha : AA X W [e] fs) (hs : starEach [e] X.env = [(false, eval e X.env)] := by rfl) : AI X W tg (.Call (.Name "range" p) [e] [] pos) (mItL range1D fs) := by
  obtain ⟨t, pa, qa⟩ := ha
  refine ⟨_, pi_range1 hg hm pa hs, fun G σ H F ρ R S hgd => qa G σ H F ρ _ S (hgd.bind fun ds ρ1 H1 F1 S1 s1 g1 vs r1 => ?_)⟩
  unfold range1D at g1
  split at g1
  · split at g1
    · rename_i hz
      obtain ⟨v, rfl, rv⟩ := reps1 r1
      cases rv
      exact ⟨_, rfl, hz.1, hz.2, g1 H1 F1 S1 Sm.refl _ (by simpa using okR (lo := 0))⟩
    · exact g1.elim
  · exact g1.elim
theorem AI.range2 (hg : Gl X "range") (hm : X.mg "range" = none) (ha : AA X W [e, e2] fs) (hs : starEach [e, e2] X.env = [(false, eval e X.env), (false, eval e2 X.env)] := by rfl) (hs2 : starEach [e2] X.env = [(false, eval e2 X.env)] := by rfl) :
    AI X W tg (.Call (.Name "range" p) [e, e2] [] pos) (mItL range2D fs) := by
  obtain ⟨t, pa, qa⟩ := ha
  refine ⟨_, pi_range2 hg hm pa hs hs2, fun G σ H F ρ R S hgd => qa G σ H F ρ _ S (hgd.bind fun ds ρ1 H1 F1 S1 s1 g1 vs r1 => ?_)⟩
  unfold range2D at g1
  split at g1
  · split at g1
    · rename_i hz
      obtain ⟨v, u, rfl, rv, ru⟩ := reps2 r1
      cases rv; cases ru
      exact ⟨_, _, rfl, hz, g1 H1 F1 S1 Sm.refl _ okR⟩
    · exact g1.elim
  · exact g1.elim
theorem AI.zip {tpos : Pos} {elts : List Expr} {kk : Nat} (hg : Gl X "zip") (hm : X.mg "zip" = none) (ha : AA X W [e, e2] fs) (hs : starEach [e, e2] X.env = (false, eval e X.env) :: starEach [e2] X.env := by rfl) (hpl : (backTo pos (starEach [e2] X.env)).any (·.1) = false := by rfl) :
    AI X W (.Tuple elts kk tpos) (.Call (.Name "zip" p) [e, e2] [] pos) (mItL zipD fs) := by
  obtain ⟨t, pa, qa⟩ := ha
  refine ⟨_, RZ.pi_zipA hg hm pa hs hpl, fun G σ H F ρ R S hgd => qa G σ H F ρ _ S (hgd.bind fun ds ρ1 H1 F1 S1 s1 g1 vs r1 => ?_)⟩
  unfold zipD at g1
  split at g1
  · obtain ⟨v, u, rfl, rv, ru⟩ := reps2 r1
    cases rv with
    | lst hx rx =>
      cases ru with
      | lst hy ry => exact ⟨_, _, _, _, rfl, .inl ⟨.of (S1.sub _ _ hx), .of (S1.sub _ _ hy), g1 H1 F1 S1 Sm.refl _ (okZ (.of hx) rx (.of hy) ry)⟩⟩
  · obtain ⟨v, u, rfl, rv, ru⟩ := reps2 r1
    cases rv with
    | tup hx rx =>
      cases ru with
      | tup hy ry => exact ⟨_, _, _, _, rfl, .inr ⟨SqTm S1.sub hx, SqTm S1.sub hy, g1 H1 F1 S1 Sm.refl _ (okZT hx rx hy ry)⟩⟩
  · exact g1.elim
end

/-! ### targets -/
/-- the slots that a target stores to -/
inductive Tg where
  | sl (i : Nat)
  | tp (ts : List Tg)
mutual
def putT : Tg → D → Ro → R Unit
  | .sl i, d, ρ => if (ρ.getD i .un).isIo = true then .stuck else .ok () (ρ.set i (.val d))
  | .tp ts, .tup xs, ρ => if xs.length = lenT ts then putTs ts xs ρ else .stuck
  | .tp _, _, _ => .stuck
def putTs : List Tg → List D → Ro → R Unit
  | [], [], ρ => .ok () ρ
  | t :: ts, x :: xs, ρ => (putT t x ρ).bind fun _ ρ => putTs ts xs ρ
  | _, _, _ => .stuck
def lenT : List Tg → Nat
  | [] => 0
  | _ :: ts => lenT ts + 1
end
mutual
/-- the slots of a target -/
def slT : Tg → List Nat
  | .sl i => [i]
  | .tp ts => slTs ts
def slTs : List Tg → List Nat
  | [] => []
  | t :: ts => slT t ++ slTs ts
end
/-- behind stores: the slots may be others -/
def GoodT (K : PySem.W.Frag) (G : Ent) (F : Hp) (σ : St) (sl : List Nat) (r : R Unit) (Q : St → Hp → Prop) : Prop := match r with
  | .ok _ ρ => ∀ σ' H' F', Stt K G σ' H' F' ρ → Sm F F' → (∀ i, i ∉ sl → σ'[i]? = σ[i]?) → Q σ' H'
  | _ => False
theorem GoodT.mono {K : PySem.W.Frag} {G : Ent} {F F1 : Hp} {σ : St} {sl : List Nat} {r : R Unit} {Q : St → Hp → Prop} (s : Sm F F1) (h : GoodT K G F σ sl r Q) : GoodT K G F1 σ sl r Q := by
  cases r with
  | ok a ρ => exact fun σ' H' F' S q => h σ' H' F' S (s.tr q)
  | exc x ρ => exact h
  | stuck => exact h
def AG (X : Cx) (tg : Expr) (t : Tg) : Prop := ∃ g, PG X tg g ∧ ∀ G σ H F ρ v d Q, Stt X.K G σ H F ρ → Rep X.K F v d → GoodT X.K G F σ (slT t) (putT t d ρ) Q → g v σ H Q
def AGs (X : Cx) (tg : List Expr) (t : List Tg) : Prop := ∃ g, PGs X tg g ∧ ∀ G σ H F ρ vs ds Q, Stt X.K G σ H F ρ → Reps X.K F vs ds → GoodT X.K G F σ (slTs t) (putTs t ds ρ) Q → g vs σ H Q
section
variable {X : Cx} {pos : Pos}
theorem AG.name {i : Nat} {x : Str} (hN : X.N.Nodup) (hi : X.N[i]? = some x) (hx : Loc X.env.scope x) (hf : X.fn x = true ∨ X.env.scope.names.lookup x = some .local := by first | exact .inl rfl | exact .inr rfl) : AG X (.Name x pos) (.sl i) := by
  refine ⟨_, pg_name hN hi hx hf, fun G σ H F ρ v d Q S r hg => ?_⟩
  unfold putT at hg
  split at hg
  · exact hg.elim
  · rename_i h
    exact hg _ H F (S.setVal (by simpa using h) r) Sm.refl fun j hj => List.getElem?_set_ne (fun e => hj (by simp [slT, e]))
theorem AGs.nil : AGs X [] [] := ⟨_, pgs_nil, fun G σ H F ρ vs ds Q S r hg => by
  cases r with
  | nil => exact ⟨rfl, hg σ H F S Sm.refl fun _ _ => rfl⟩
  | cons => exact hg.elim⟩
theorem AGs.cons {e : Expr} {es : List Expr} {t : Tg} {ts : List Tg} (h : AG X e t) (hr : AGs X es ts) (hs : (assignEach (e :: es) X.env).map (·.2) = assign e X.env :: (assignEach es X.env).map (·.2) := by rfl) : AGs X (e :: es) (t :: ts) := by
  obtain ⟨g, pg, qg⟩ := h
  obtain ⟨gs, pgs, qgs⟩ := hr
  refine ⟨_, pgs_cons pg pgs hs, fun G σ H F ρ vs ds Q S r hg => ?_⟩
  cases r with
  | nil => exact hg.elim
  | @cons v vs d ds rv rr =>
    refine ⟨v, vs, rfl, qg G σ H F ρ v d _ S rv ?_⟩
    unfold putTs at hg
    cases e : putT t d ρ with
    | ok a ρ1 =>
      rw [e] at hg
      refine fun σ' H' F' S' s' o' => qgs G σ' H' F' ρ1 vs ds _ S' (rr.mono s') ?_
      have hg : GoodT X.K G F σ (slTs (t :: ts)) (putTs ts ds ρ1) Q := hg
      cases e2 : putTs ts ds ρ1 with
      | ok b ρ2 =>
        rw [e2] at hg
        exact fun σ2 H2 F2 S2 s2 o2 => hg σ2 H2 F2 S2 (s'.tr s2) fun i hi => (o2 i fun h => hi (by simp [slTs, h])).trans (o' i fun h => hi (by simp [slTs, h]))
      | exc x ρ2 => rw [e2] at hg; exact hg.elim
      | stuck => rw [e2] at hg; exact hg.elim
    | exc x ρ1 => rw [e] at hg; exact hg.elim
    | stuck => rw [e] at hg; exact hg.elim
theorem AGs.len {es : List Expr} {ts : List Tg} (hn : es.length = lenT ts) : es.length = lenT ts := hn
theorem AG.tup {es : List Expr} {k n : Nat} {ts : List Tg} (hc : X.calm = true) (h : AGs X es ts) (hl : n = lenT ts := by rfl) (hn : (assignEach es X.env).length = n := by rfl) (hst : (assignEach es X.env).findIdx? (·.1) = none := by rfl) : AG X (.Tuple es k pos) (.tp ts) := by
  obtain ⟨g, pg, qg⟩ := h
  refine ⟨_, pg_tup hc pg hn hst, fun G σ H F ρ v d Q S r hg => ?_⟩
  cases r with
  | tup hx rx =>
    unfold putT at hg
    split at hg
    · rename_i hz
      exact ⟨_, _, rfl, SqTm S.sub hx, by rw [rx.length, hz, hl], qg G σ H F ρ _ _ Q S rx hg⟩
    · exact hg.elim
  | _ => exact hg.elim
end

/-! ### statements -/
def xNx : M Fl := fun ρ => .ok .nx ρ
def xSeq (a b : M Fl) : M Fl := fun ρ => (a ρ).bind fun f ρ => match f with
  | .nx => b ρ
  | f => .ok f ρ
def xRet (e : M D) : M Fl := fun ρ => (e ρ).bind fun d ρ => .ok (.rt d) ρ
def xIf (t : M Bool) (a b : M Fl) : M Fl := fun ρ => (t ρ).bind fun c ρ => if c = true then a ρ else b ρ
def xDrop (e : M D) : M Fl := fun ρ => (e ρ).bind fun _ ρ => .ok .nx ρ
def xPut (t : Tg) (e : M D) : M Fl := fun ρ => (e ρ).bind fun d ρ => (putT t d ρ).bind fun _ ρ => .ok .nx ρ
/-- i op= e -/
def xAug (g : D → D → FR D) (i : Nat) (e : M D) : M Fl := fun ρ => match ρ.getD i .un with
  | .val d => (e ρ).bind fun y ρ => ((g d y).lift ρ).bind fun z ρ => (putT (.sl i) z ρ).bind fun _ ρ => .ok .nx ρ
  | _ => .stuck
/-- the loop over what is left -/
def forM (t : Tg) (body : M Fl) : List D → M Fl
  | [], ρ => .ok .nx ρ
  | d :: ds, ρ => (putT t d ρ).bind fun _ ρ => (body ρ).bind fun f ρ => match f with
    | .nx => forM t body ds ρ
    | .ct => forM t body ds ρ
    | .bk => .ok .nx ρ
    | .rt r => .ok (.rt r) ρ
    | .rn r => .ok (.rn r) ρ
def xFor (it : M (List D)) (t : Tg) (body : M Fl) : M Fl := fun ρ => (it ρ).bind fun ds ρ => forM t body ds ρ
section
variable {X : Cx} {W : WX} {st : Stmt} {rest : List Stmt} {a b : M Fl} {e : Expr} {fe : M D} {pos : Pos}
theorem AB.nil : AB X W [] xNx := ⟨_, pss_nil, fun G σ H F ρ Dn S hg => hg σ H F S Sm.refl⟩
theorem seq_good {K : PySem.W.Frag} {G : Ent} {F : Hp} {r : R Fl} {Dn : Ends} {u : TS} (q : ∀ σ H F ρ, Stt K G σ H F ρ → GoodS K G W F (b ρ) Dn → u Dn σ H)
    (hg : GoodS K G W F (r.bind fun f ρ => match f with | .nx => b ρ | f => .ok f ρ) Dn) : GoodS K G W F r { Dn with nx := u Dn } := by
  cases r with
  | ok f ρ =>
    cases f with
    | nx => exact fun σ' H' F' S s => q σ' H' F' ρ S (GoodS.mono s hg)
    | rt d => exact hg
    | rn d => exact hg
    | bk => exact hg
    | ct => exact hg
  | exc x ρ => exact hg
  | stuck => exact hg
theorem AB.cons (h1 : AS X W st a) (h2 : AB X W rest b) : AB X W (st :: rest) (xSeq a b) := by
  obtain ⟨t, p, q⟩ := h1
  obtain ⟨u, p2, q2⟩ := h2
  exact ⟨_, pss_cons p p2, fun G σ H F ρ Dn S hg => q G σ H F ρ _ S (seq_good (fun σ H F ρ S hg => q2 G σ H F ρ Dn S hg) hg)⟩
theorem AB.one (h1 : AS X W st a) : AB X W [st] a := by
  obtain ⟨t, p, q⟩ := h1
  exact ⟨_, pss_one p, q⟩
theorem AS.ret (h : AE X W e fe) : AS X W (.Return (some e) pos) (xRet fe) := by
  obtain ⟨t, p, q⟩ := h
  exact ⟨_, ps_ret p, fun G σ H F ρ Dn S hg => q G σ H F ρ _ S (GoodS.bind hg fun d ρ1 H1 F1 S1 s1 g1 v r1 => g1 v σ H1 F1 S1 Sm.refl r1)⟩
theorem AS.retN : AS X W (.Return none pos) (xRet (mC .non)) := ⟨_, ps_retN, fun G σ H F ρ Dn S hg => hg .non σ H F S Sm.refl .non⟩
theorem AS.if_ {c : Expr} {x y : List Stmt} {t : M Bool} (hc : AT X W c t) (ha : AB X W x a) (hb : AB X W y b) : AS X W (.If c x y pos) (xIf t a b) := by
  obtain ⟨tc, pc, qc⟩ := hc
  obtain ⟨ta, pa, qa⟩ := ha
  obtain ⟨tb, pb, qb⟩ := hb
  refine ⟨_, ps_if pc pa pb, fun G σ H F ρ Dn S hg => qc G σ H F ρ _ S (GoodS.bind hg fun k ρ1 H1 F1 S1 s1 g1 => ?_)⟩
  show if k = true then ta Dn σ H1 else tb Dn σ H1
  cases k with
  | true => rw [if_pos rfl]; exact qa G σ H1 F1 ρ1 Dn S1 g1
  | false => rw [if_neg Bool.false_ne_true]; exact qb G σ H1 F1 ρ1 Dn S1 g1
theorem AS.expr (h : AE X W e fe) (hs : swapsWith e none pos.line X.env = pure false := by rfl) : AS X W (.Expr e pos) (xDrop fe) := by
  obtain ⟨t, p, q⟩ := h
  exact ⟨_, ps_expr p hs, fun G σ H F ρ Dn S hg => q G σ H F ρ _ S (GoodS.bind hg fun d ρ1 H1 F1 S1 s1 g1 v r1 => g1 σ H1 F1 S1 Sm.refl)⟩
theorem AS.pass : AS X W (.Pass pos) xNx := ⟨_, ps_pass, fun G σ H F ρ Dn S hg => hg σ H F S Sm.refl⟩
theorem AS.doc {x : Str} {j : Nat} {pos' : Pos} : AS X W (.Expr (.Constant (.str x) j pos) pos') xNx := ⟨_, ps_doc, fun G σ H F ρ Dn S hg => hg σ H F S Sm.refl⟩
theorem AS.brk : AS X W (.Break pos) (fun ρ => .ok .bk ρ) := ⟨_, ps_break, fun G σ H F ρ Dn S hg => hg σ H F S Sm.refl⟩
theorem AS.cont : AS X W (.Continue pos) (fun ρ => .ok .ct ρ) := ⟨_, ps_continue, fun G σ H F ρ Dn S hg => hg σ H F S Sm.refl⟩
theorem put_good {K : PySem.W.Frag} {G : Ent} {F : Hp} {σ : St} {sl : List Nat} {t : Tg} {d : D} {ρ : Ro} {Dn : Ends} (hg : GoodS K G W F ((putT t d ρ).bind fun _ ρ => .ok .nx ρ) Dn) (hx : ∀ x ρ', putT t d ρ ≠ .exc x ρ') : GoodT K G F σ sl (putT t d ρ) Dn.nx := by
  cases e : putT t d ρ with
  | ok u ρ1 => rw [e] at hg; exact fun σ' H' F' S s _ => hg σ' H' F' S s
  | exc x ρ1 => exact absurd e (hx x ρ1)
  | stuck => rw [e] at hg; exact hg
mutual
theorem putT_noexc : ∀ (t : Tg) (d : D) (ρ : Ro) (x : Ex) (ρ' : Ro), putT t d ρ ≠ .exc x ρ'
  | .sl i, d, ρ, x, ρ' => by
    unfold putT
    split <;> exact fun h => by cases h
  | .tp ts, .tup xs, ρ, x, ρ' => by
    unfold putT
    split
    · exact putTs_noexc ts xs ρ x ρ'
    · exact fun h => by cases h
  | .tp ts, .non, ρ, x, ρ' => by unfold putT; exact fun h => by cases h
  | .tp ts, .bl _, ρ, x, ρ' => by unfold putT; exact fun h => by cases h
  | .tp ts, .int _, ρ, x, ρ' => by unfold putT; exact fun h => by cases h
  | .tp ts, .str _, ρ, x, ρ' => by unfold putT; exact fun h => by cases h
  | .tp ts, .lst _, ρ, x, ρ' => by unfold putT; exact fun h => by cases h
  | .tp ts, .frz _, ρ, x, ρ' => by unfold putT; exact fun h => by cases h
  | .tp ts, .obj _ _ _, ρ, x, ρ' => by unfold putT; exact fun h => by cases h
  | .tp ts, .opq _, ρ, x, ρ' => by unfold putT; exact fun h => by cases h
theorem putTs_noexc : ∀ (ts : List Tg) (ds : List D) (ρ : Ro) (x : Ex) (ρ' : Ro), putTs ts ds ρ ≠ .exc x ρ'
  | [], [], ρ, x, ρ' => by unfold putTs; exact fun h => by cases h
  | [], _ :: _, ρ, x, ρ' => by unfold putTs; exact fun h => by cases h
  | _ :: _, [], ρ, x, ρ' => by unfold putTs; exact fun h => by cases h
  | t :: ts, d :: ds, ρ, x, ρ' => by
    unfold putTs
    cases e : putT t d ρ with
    | ok u ρ1 => exact putTs_noexc ts ds ρ1 x ρ'
    | exc y ρ1 => exact absurd e (putT_noexc t d ρ y ρ1)
    | stuck => exact fun h => by cases h
end
/-- name = e -/
theorem AS.set {i : Nat} {x : Str} {pos' : Pos} (hN : X.N.Nodup) (hi : X.N[i]? = some x) (hx : Loc X.env.scope x) (he : AE X W e fe) (hs : swapsWith e (some (.Name x pos')) pos.line X.env = pure false := by rfl) (hf : X.fn x = true ∨ X.env.scope.names.lookup x = some .local := by first | exact .inl rfl | exact .inr rfl) :
    AS X W (.Assign [.Name x pos'] e pos) (xPut (.sl i) fe) := by
  obtain ⟨t, p, q⟩ := he
  obtain ⟨g, pg, qg⟩ := AG.name (X := X) (pos := pos') hN hi hx hf
  refine ⟨_, ps_set hN hi hx p hs hf, fun G σ H F ρ Dn S hg => q G σ H F ρ _ S (GoodS.bind hg fun d ρ1 H1 F1 S1 s1 g1 v r1 => ?_)⟩
  have h := put_good (σ := σ) (sl := []) g1 (putT_noexc _ _ _)
  unfold putT at h
  split at h
  · exact h.elim
  · rename_i hh
    unfold putT at g1
    rw [if_neg hh] at g1
    exact g1 _ H1 F1 (S1.setVal (by simpa using hh) r1) Sm.refl
/-- a target = e -/
theorem AS.asg {tg : Expr} {t : Tg} (he : AE X W e fe) (hg : AG X tg t) (hs : swapsWithSole [tg] e pos.line X.env = pure false := by rfl) (hw : swappedStores [tg] e X.env = pure none := by rfl) (h1 : (assignEach [tg] X.env).map (·.2) = [assign tg X.env] := by rfl) : AS X W (.Assign [tg] e pos) (xPut t fe) := by
  obtain ⟨te, p, q⟩ := he
  obtain ⟨g, pg, qg⟩ := hg
  exact ⟨_, ps_asg p pg hs hw h1, fun G σ H F ρ Dn S hg => q G σ H F ρ _ S (GoodS.bind hg fun d ρ1 H1 F1 S1 s1 g1 v r1 => qg G σ H1 F1 ρ1 v d Dn.nx S1 r1 (put_good g1 (putT_noexc _ _ _)))⟩
/-- a loop over a list, .. -/
theorem AS.for_ {tg iter : Expr} {body : List Stmt} {fi : M (List D)} {t : Tg} {fb : M Fl} (hp : PassesOwn (model X.prog X.w) X.A X.env X.xe) (hc : X.calm = true) (hi : AI X W tg iter fi) (hg : AG X tg t) (hb : AB X W body fb)
    (hs : ∀ x, foldedSetIterable iter X.env x = pure x := by intro _; rfl) : AS X W (.For tg iter body [] pos) (xFor fi t fb) := by
  obtain ⟨wi, pi, qi⟩ := hi
  obtain ⟨g, pg, qg⟩ := hg
  obtain ⟨tb, pb, qb⟩ := hb
  refine ⟨_, ps_for hp hc pi pg pb hs, fun G σ H F ρ Dn S hgd => qi G σ H F ρ _ S (GoodS.bind hgd fun ds ρ1 H1 F1 S1 s1 g1 J hJ => ?_)⟩
  refine ⟨fun i m σ' H' => i + m = ds.length ∧ ∃ F' ρ', Stt X.K G σ' H' F' ρ' ∧ Sm F1 F' ∧ GoodS X.K G W F' (forM t fb (ds.drop i) ρ') Dn, ⟨ds.length, by omega, F1, ρ1, S1, Sm.refl, by rw [List.drop_zero]; exact g1⟩, ?_⟩
  rintro i m σ' H' ⟨hm, F', ρ', S', s', hgf⟩
  obtain ⟨stop, go⟩ := hJ i H' F' s' S'.sub
  by_cases hlt : i < ds.length
  · rw [List.drop_eq_getElem_cons hlt] at hgf
    obtain ⟨hgo, hy⟩ := go ds[i] (List.getElem?_eq_getElem hlt)
    refine .inr ⟨hgo, fun σ2 H2 => (i + 1) + (m - 1) = ds.length ∧ ∃ F2 ρ2, Stt X.K G σ2 H2 F2 ρ2 ∧ Sm F1 F2 ∧ GoodS X.K G W F2 (forM t fb (ds.drop (i + 1)) ρ2) Dn, fun σ2 H2 hn => ⟨m - 1, by omega, hn⟩, fun x H2 hyl => ?_⟩
    obtain ⟨F2, A2, r2⟩ := hy x H2 hyl
    have S2 := S'.grow A2.h A2.sub A2.f A2.new
    refine qg G σ' H2 F2 ρ' x _ _ S2 r2 ?_
    unfold forM at hgf
    cases e : putT t ds[i] ρ' with
    | ok u ρ3 =>
      rw [e] at hgf
      refine fun σ3 H3 F3 S3 s3 _ => qb G σ3 H3 F3 ρ3 _ S3 ?_
      have hgf := GoodS.mono (A2.f.tr s3) hgf
      have again : ∀ {ρ4 : Ro}, GoodS X.K G W F3 (forM t fb (ds.drop (i + 1)) ρ4) Dn → ∀ σ4 H4 F4, Stt X.K G σ4 H4 F4 ρ4 → Sm F3 F4 → (i + 1) + (m - 1) = ds.length ∧ ∃ F2 ρ2, Stt X.K G σ4 H4 F2 ρ2 ∧ Sm F1 F2 ∧ GoodS X.K G W F2 (forM t fb (ds.drop (i + 1)) ρ2) Dn :=
        fun hq σ4 H4 F4 S4 s4 => ⟨by omega, F4, _, S4, s'.tr (A2.f.tr (s3.tr s4)), GoodS.mono s4 hq⟩
      have hgf : GoodS X.K G W F3 ((fb ρ3).bind fun f ρ => match f with | .nx => forM t fb (ds.drop (i + 1)) ρ | .ct => forM t fb (ds.drop (i + 1)) ρ | .bk => .ok .nx ρ | .rt r => .ok (.rt r) ρ | .rn r => .ok (.rn r) ρ) Dn := hgf
      cases e4 : fb ρ3 with
      | ok f ρ4 =>
        rw [e4] at hgf
        cases f with
        | nx => exact again hgf
        | ct => exact again hgf
        | bk => exact hgf
        | rt d => exact hgf
        | rn d => exact hgf
      | exc x ρ4 => rw [e4] at hgf; exact hgf
      | stuck => rw [e4] at hgf; exact hgf
    | exc y ρ3 => exact absurd e (putT_noexc _ _ _ _ _)
    | stuck => rw [e] at hgf; exact hgf.elim
  · have e0 : ds.drop i = [] := List.drop_eq_nil_of_le (by omega)
    rw [e0] at hgf
    exact .inl ⟨stop (by omega), hgf σ' H' F' S' Sm.refl⟩
end
end Mr
namespace Mr
open PySem PySem.Spec PyProof.Rows L2

/-! ### calls of defs -/
section
variable {X : Cx} {W : WX} {k n : Nat} {f : Addr} {fd : FuncData} {ps : List Str} {sp : Sp} {dvs : List V} {dV : List Value} {dd : List D} {x y : Str} {p py pos : Pos} {e : Expr} {es : List Expr} {fs : M (List D)} {m : List D → FR D} {mi : SV → List D → IR}
theorem run_fnW {pins : List (Addr × Obj)} {σ : St} {H : Hp} {s : Shared} {Q : VK} {us : List Value} {vs : List V} (Fn : FnOk X.prog X.w X.K X.mg X.base (L2.CX X.prog X.w) k f fd ps sp) (hr : Room k X.A) (hb : Binds X.K fd ps dV) (hd : Vals dvs dV) (tk : Takes X W)
    (I : Inv X pins σ H s) (r : Vals vs us) (h : sp (vs ++ dvs) H Q (WE W σ)) : wpAny (model X.prog X.w) X.A (call (.ref f) us) (EP X pins σ Q) X.xe s := by
  have r2 := r.append hd
  have hl : (us ++ dV).length = ps.length := r2.length.symm.trans (Fn.len _ _ _ _ h)
  refine wpAny_call (codeAny_mono (Fn.run X.A X.stack s H ⟨us, []⟩ (us ++ dV) (vs ++ dvs) Q (WE W σ) hr I.env0 (hb s us I.kIn hl) r2 h) fun r s' hq => ?_)
  cases r with
  | error e => exact passAt tk σ pins H s e s' I hq
  | ok fl =>
    cases fl with
    | ret u => exact I.after hq
    | _ => exact hq.elim
def tCallW (W : WX) (sp : Sp) (dvs : List V) (t : TA) : TE := fun σ H Q => t σ H fun vs H1 => sp (vs ++ dvs) H1 Q (WE W σ)
theorem pe_callW {ta : TA} (Fn : FnOk X.prog X.w X.K X.mg X.base (L2.CX X.prog X.w) k f fd ps sp) (hr : Room k X.A) (hg : Gl X x) (hm : X.mg x = some (.ref f)) (hk : PySem.W.keepIn X.K (.ref f) = true) (hb : Binds X.K fd ps dV) (hd : Vals dvs dV) (tk : Takes X W)
    (ha : PA X (e :: es) ta) (hdb : (x == ("__debug__" : Str)) = false := by decide) (he : starEach (e :: es) X.env = (false, eval e X.env) :: starEach es X.env := by rfl) (hpl : (backTo pos (starEach es X.env)).any (·.1) = false := by rfl) :
    PE X (.Call (.Name x p) (e :: es) [] pos) (tCallW W sp dvs ta) := by
  refine ⟨fun pins s σ H Q I h => ?_⟩
  refine wpAny_Call_Name_kw (ld_glob I hg hm (PySem.W.callWith_K (h₀ := X.base) I.ok.mod.kin hk ?_ he hpl) hdb)
  refine thn (ha.run pos pins s σ H _ I h) fun us s1 ⟨vs, H1, I1, r, q⟩ => ?_
  exact ⟨I1.kIn, run_fnW Fn hr hb hd tk I1 r q⟩
theorem aftGood {G : Ent} {σ : St} {H F : Hp} {ρ : Ro} {r : FR D} {Q : VK} (S : Stt X.K G σ H F ρ) (g : Good X.K G W σ F (r.lift ρ) (PD X.K Q)) : GoodF X.K H F r Q (WE W σ) := by
  cases r with
  | ok d => exact fun v H' F' A rv => g H' F' (S.grow A.h A.sub A.f A.new) A.f v rv
  | exc x => exact fun d H' F' A rv => g d H' F' (S.grow A.h A.sub A.f A.new) A.f rv
  | stuck => exact g
theorem Reps.mono0 {K : PySem.W.Frag} {F : Hp} {vs : List V} {ds : List D} (h : ∀ K H, Reps K H vs ds) : Reps K F vs ds := h K F
def mCall (m : List D → FR D) (n : Nat) (dd : List D) (fs : M (List D)) : M D := fun ρ => (fs ρ).bind fun ds ρ => (if ds.length + dd.length = n then m (ds ++ dd) else .stuck).lift ρ
/-- f(..) -/
theorem AE.call (Fn : FnOk X.prog X.w X.K X.mg X.base (L2.CX X.prog X.w) k f fd ps (PSp X.K n m)) (hr : Room k X.A) (hg : Gl X x) (hm : X.mg x = some (.ref f)) (hk : PySem.W.keepIn X.K (.ref f) = true) (hb : Binds X.K fd ps dV) (hd : Vals dvs dV) (hdd : ∀ K H, Reps K H dvs dd) (tk : Takes X W)
    (ha : AA X W (e :: es) fs) (hdb : (x == ("__debug__" : Str)) = false := by decide) (he : starEach (e :: es) X.env = (false, eval e X.env) :: starEach es X.env := by rfl) (hpl : (backTo pos (starEach es X.env)).any (·.1) = false := by rfl) :
    AE X W (.Call (.Name x p) (e :: es) [] pos) (mCall m n dd fs) := by
  obtain ⟨t, pa, qa⟩ := ha
  refine ⟨_, pe_callW Fn hr hg hm hk hb hd tk pa hdb he hpl, fun G σ H F ρ Q S hgd => qa G σ H F ρ _ S (hgd.bind fun ds ρ1 H1 F1 S1 s1 g1 vs r1 => ?_)⟩
  have g1 : Good X.K G W σ F1 ((if ds.length + dd.length = n then m (ds ++ dd) else FR.stuck).lift ρ1) (PD X.K Q) := g1
  split at g1
  · rename_i hz
    exact ⟨by rw [List.length_append, r1.length, (hdd X.K F1).length]; exact hz, F1, ds ++ dd, S1.sub, r1.append (hdd _ _), aftGood S1 g1⟩
  · exact g1.elim
/-- f(x, ..): x may be changed -/
def SV.flag (b : Bool) : SV → SV
  | .own _ xs => .own b xs
  | .ins _ C ns ds => .ins b C ns ds
  | s => s
def mIo (mi : SV → List D → IR) (n j : Nat) (fs : M (List D)) : M D := fun ρ => if (ρ.getD j .un).isOwn = true then (fs ρ).bind fun ds ρ =>
    if ds.length = n ∧ (ρ.getD j .un).isOwn = true then match mi ((ρ.getD j .un).flag true) ds with
      | .ok d sv => .ok d (ρ.set j (sv.flag (ρ.getD j .un).isIo))
      | .exc x sv => .exc x (ρ.set j (sv.flag (ρ.getD j .un).isIo))
      | .stuck => .stuck
    else .stuck
  else .stuck
theorem SlotOk.flag {K : PySem.W.Frag} {H F : Hp} {s : Option (Option V)} {sv : SV} (b : Bool) (q : SlotOk K H F s sv) : SlotOk K H F s (sv.flag b) := by
  cases sv <;> exact q
theorem flag_io {sv : SV} {b : Bool} (h : sv.isOwn = true) : (sv.flag b).isIo = b ∧ (sv.flag b).isOwn = true := by
  cases sv with
  | un => cases h
  | val d => cases h
  | own p xs => exact ⟨rfl, rfl⟩
  | ins p C ns ds => exact ⟨rfl, rfl⟩
theorem AE.callIo {j : Nat} (Fn : FnOk X.prog X.w X.K X.mg X.base (L2.CX X.prog X.w) k f fd ps (ISp X.K n mi)) (hr : Room k X.A) (hg : Gl X x) (hm : X.mg x = some (.ref f)) (hk : PySem.W.keepIn X.K (.ref f) = true) (hb : Binds X.K fd ps []) (tk : Takes X W)
    (h0 : PE X (.Name y py) (tVar j)) (ha : AA X W es fs) (hdb : (x == ("__debug__" : Str)) = false := by decide) (he : starEach (.Name y py :: es) X.env = (false, eval (.Name y py) X.env) :: starEach es X.env := by rfl) (hpl : (backTo pos (starEach es X.env)).any (·.1) = false := by rfl) :
    AE X W (.Call (.Name x p) (.Name y py :: es) [] pos) (mIo mi n j fs) := by
  obtain ⟨t, pa, qa⟩ := ha
  refine ⟨_, pe_callW (W := W) Fn hr hg hm hk hb .nil tk (pa_cons h0 pa he) hdb he hpl, fun G σ H F ρ Q S hgd => ?_⟩
  unfold mIo at hgd
  split at hgd
  · rename_i ho
    obtain ⟨a, o, e1, _, _, _⟩ := (S.at_ j).there ho
    refine ⟨_, e1, qa G σ H F ρ _ S (hgd.bind fun ds ρ1 H1 F1 S1 s1 g1 vs r1 => ?_)⟩
    split at g1
    · rename_i hz
      have q := S1.at_ j
      rw [e1] at q
      refine ⟨by rw [List.append_nil, List.length_cons, r1.length, hz.1], F1, a, vs, _, ds, by rw [List.append_nil], S1.sub, q.flag true, (flag_io hz.2).1, r1, ?_⟩
      have back : ∀ {sv : SV} {H' F' : Hp}, AftIo X.K a sv H1 F1 H' F' → Stt X.K G σ H' F' (ρ1.set j (sv.flag (ρ1.getD j .un).isIo)) := fun {sv H' F'} A =>
        S1.change hz.2 e1 A.h A.sub A.f A.new (A.at_.flag _) (flag_io (SV.own_of_io A.own)).2 (flag_io (SV.own_of_io A.own)).1
      cases em : mi ((ρ1.getD j .un).flag true) ds with
      | ok d sv =>
        rw [em] at g1
        exact fun v H' F' A rv => g1 H' F' (back A) A.f v rv
      | exc xx sv =>
        rw [em] at g1
        exact fun d H' F' A rv => g1 d H' F' (back A) A.f rv
      | stuck => rw [em] at g1; exact g1
    · exact g1.elim
  · exact hgd.elim
end

/-! ### lists of one's own -/
/-- e gives a new list -/
def AN (X : Cx) (W : WX) (e : Expr) (f : M (List D)) : Prop := ∃ t, PE X e t ∧ ∀ G σ H F ρ Q, Stt X.K G σ H F ρ →
  Good X.K G W σ F (f ρ) (fun ds ρ' H' F' => ∀ a vs H2, Stt X.K ⟨G.H0, G.F0, G.io, (a, .lst vs) :: G.xt⟩ σ H2 F' ρ' → Reps X.K F' vs ds → Q (.ref a) H2) → t σ H Q
def mOfN (f : M (List D)) : M D := fun ρ => (f ρ).bind fun ds ρ => .ok (.lst ds) ρ
def mLstN (fs : M (List D)) : M (List D) := fun ρ => (fs ρ).bind fun ds ρ => if ds.length ≤ sizeLine then .ok ds ρ else .stuck
/-- x = a new list, changed later -/
def xOwn (i : Nat) (f : M (List D)) : M Fl := fun ρ => (f ρ).bind fun ds ρ => if (ρ.getD i .un).isIo = true then .stuck else .ok .nx (ρ.set i (.own false ds))
/-- x[e] -/
def mIxN (j : Nat) (fe : M D) : M D := fun ρ => match ρ.getD j .un with
  | .own _ _ => (fe ρ).bind fun i ρ => match ρ.getD j .un, i with
    | .own _ xs, .int k => match atI xs k with
      | some d => .ok d ρ
      | none => .stuck
    | _, _ => .stuck
  | .val d => (fe ρ).bind fun i ρ => (ixD d i).lift ρ
  | _ => .stuck
/-- x[e] = v -/
def xSetIx (j : Nat) (fv fe : M D) : M Fl := fun ρ => (fv ρ).bind fun v ρ => match ρ.getD j .un with
  | .own _ _ => (fe ρ).bind fun i ρ => match ρ.getD j .un, i with
    | .own p xs, .int k => match ixN xs.length k with
      | some n => .ok .nx (ρ.set j (.own p (xs.set n v)))
      | none => .stuck
    | _, _ => .stuck
  | _ => .stuck
/-- x.append(e) -/
def mApp (j : Nat) (fe : M D) : M D := fun ρ => match ρ.getD j .un with
  | .own _ _ => (fe ρ).bind fun v ρ => match ρ.getD j .un with
    | .own p xs => if xs.length < sizeLine then .ok .non (ρ.set j (.own p (xs ++ [v]))) else .stuck
    | _ => .stuck
  | _ => .stuck
/-- len(x) -/
def mLenN (j : Nat) : M D := fun ρ => match ρ.getD j .un with
  | .own _ xs => .ok (.int xs.length) ρ
  | .val d => (lenD [d]).lift ρ
  | _ => .stuck
section
variable {X : Cx} {W : WX} {e b : Expr} {es : List Expr} {fs : M (List D)} {fe fv : M D} {pos py : Pos} {y x : Str}
theorem AE.ofN (h : AN X W e fs) : AE X W e (mOfN fs) := by
  obtain ⟨t, p, q⟩ := h
  refine ⟨_, p, fun G σ H F ρ Q S hg => q G σ H F ρ Q S (hg.bind fun ds ρ1 H1 F1 S1 s1 g1 a vs H2 S2 r => ?_)⟩
  obtain ⟨S3, s3⟩ := S2.xtFreeze
  exact g1 H2 _ S3 s3 _ (.lst upd_same (r.mono s3))
theorem AN.lst (h : AA X W es fs) : AN X W (.List es pos) (mLstN fs) := by
  obtain ⟨t, p, q⟩ := h
  refine ⟨_, pe_lst p, fun G σ H F ρ Q S hg => q G σ H F ρ _ S (hg.bind fun ds ρ1 H1 F1 S1 s1 g1 vs r1 => ?_)⟩
  by_cases hz : ds.length ≤ sizeLine
  · rw [if_pos hz] at g1
    exact ⟨by rw [r1.length]; exact hz, fun a ha => g1 H1 F1 S1 Sm.refl a vs _ (S1.xtNew ha) r1⟩
  · rw [if_neg hz] at g1; exact g1.elim
def mCallN (m : List D → FR (List D)) (n : Nat) (fs : M (List D)) : M (List D) := fun ρ => (fs ρ).bind fun ds ρ => (if ds.length = n then m ds else .stuck).lift ρ
theorem AN.call {k n : Nat} {f : Addr} {fd : FuncData} {ps : List Str} {m : List D → FR (List D)} {p : Pos} (Fn : FnOk X.prog X.w X.K X.mg X.base (L2.CX X.prog X.w) k f fd ps (NSp X.K n m)) (hr : Room k X.A) (hg : Gl X x) (hm : X.mg x = some (.ref f)) (hk : PySem.W.keepIn X.K (.ref f) = true) (hb : Binds X.K fd ps []) (tk : Takes X W)
    (ha : AA X W (e :: es) fs) (hdb : (x == ("__debug__" : Str)) = false := by decide) (he : starEach (e :: es) X.env = (false, eval e X.env) :: starEach es X.env := by rfl) (hpl : (backTo pos (starEach es X.env)).any (·.1) = false := by rfl) :
    AN X W (.Call (.Name x p) (e :: es) [] pos) (mCallN m n fs) := by
  obtain ⟨t, pa, qa⟩ := ha
  refine ⟨_, pe_callW Fn hr hg hm hk hb .nil tk pa hdb he hpl, fun G σ H F ρ Q S hgd => qa G σ H F ρ _ S (hgd.bind fun ds ρ1 H1 F1 S1 s1 g1 vs r1 => ?_)⟩
  split at g1
  · rename_i hz
    refine ⟨by rw [List.append_nil, r1.length]; exact hz, F1, ds, S1.sub, by rw [List.append_nil]; exact r1, ?_⟩
    cases em : m ds with
    | ok xs =>
      rw [em] at g1
      exact fun a ws H' F' A h rw_ => g1 H' F' (S1.grow A.h A.sub A.f A.new) A.f a ws H' (S1.xtAdd A.h A.sub A.f A.new h.1 h.2.1 h.2.2) rw_
    | exc xx =>
      rw [em] at g1
      exact fun d H' F' A rv => g1 d H' F' (S1.grow A.h A.sub A.f A.new) A.f rv
    | stuck => rw [em] at g1; exact g1
  · exact g1.elim
/-- return a new list -/
def xRetN (f : M (List D)) : M Fl := fun ρ => (f ρ).bind fun ds ρ => .ok (.rn ds) ρ
theorem AS.retNew (h : AN X W e fs) : AS X W (.Return (some e) pos) (xRetN fs) := by
  obtain ⟨t, p, q⟩ := h
  exact ⟨_, ps_ret p, fun G σ H F ρ Dn S hg => q G σ H F ρ _ S (GoodS.bind hg fun ds ρ1 H1 F1 S1 s1 g1 a vs H2 S2 r => g1 a vs σ H2 F1 S2 Sm.refl r)⟩
theorem AS.own {i : Nat} {pos' : Pos} (hN : X.N.Nodup) (hi : X.N[i]? = some x) (hx : Loc X.env.scope x) (he : AN X W e fs) (hs : swapsWith e (some (.Name x pos')) pos.line X.env = pure false := by rfl) (hf : X.fn x = true ∨ X.env.scope.names.lookup x = some .local := by first | exact .inl rfl | exact .inr rfl) :
    AS X W (.Assign [.Name x pos'] e pos) (xOwn i fs) := by
  obtain ⟨t, p, q⟩ := he
  refine ⟨_, ps_set hN hi hx p hs hf, fun G σ H F ρ Dn S hg => q G σ H F ρ _ S (GoodS.bind hg fun ds ρ1 H1 F1 S1 s1 g1 a vs H2 S2 r => ?_)⟩
  split at g1
  · exact g1.elim
  · rename_i hh
    obtain ⟨e1, e2, _, _⟩ := S2.xt (a, .lst vs) (List.mem_cons_self ..)
    exact g1 _ H2 F1 (S2.xtSlot (by simpa using hh) ⟨a, vs, rfl, e1, e2, r⟩ rfl) Sm.refl
theorem own_at {K : PySem.W.Frag} {G : Ent} {σ : St} {H F : Hp} {ρ : Ro} {j : Nat} {p : Bool} {xs : List D} (S : Stt K G σ H F ρ) (h : ρ.getD j .un = .own p xs) : ∃ a vs, σ[j]? = some (some (V.ref a)) ∧ H a = some (.lst vs) ∧ F a = none ∧ Reps K F vs xs := by
  have q := S.at_ j
  rw [h] at q
  exact q
theorem AE.ixN {j : Nat} (h0 : PE X (.Name y py) (tVar j)) (hb : AE X W b fe) (hs : PlainIx b := by exact fun _ _ => rfl) : AE X W (.Subscript (.Name y py) b pos) (mIxN j fe) := by
  obtain ⟨tb, pb, qb⟩ := hb
  refine ⟨_, pe_ix (IxR.or ix_list (IxR.or ix_tup ix_str)) h0 pb hs, fun G σ H F ρ Q S hg => ?_⟩
  unfold mIxN at hg
  cases e : ρ.getD j .un with
  | own p xs =>
    rw [e] at hg
    obtain ⟨a, vs, e1, e2, e3, r⟩ := own_at S e
    refine ⟨_, e1, qb G σ H F ρ _ S (hg.bind fun di ρ1 H1 F1 S1 s1 g1 u ru => ?_)⟩
    split at g1
    · rename_i p1 ys k e4
      obtain ⟨a', ws, f1, f2, f3, r'⟩ := own_at S1 e4
      rw [e1] at f1; cases f1
      cases ru
      split at g1
      · rename_i d hd
        obtain ⟨w, ew, rw_⟩ := reps_at r' hd
        exact .inl ⟨a, ws, k, w, rfl, rfl, .of f2, ew, g1 H1 F1 S1 Sm.refl _ rw_⟩
      · exact g1.elim
    · exact g1.elim
  | val d =>
    rw [e] at hg
    have q := S.at_ j
    rw [e] at q
    obtain ⟨v, e1, r1⟩ := q
    refine ⟨v, e1, qb G σ H F ρ _ S (hg.bind fun dy ρ2 H2 F2 S2 s2 g2 u r2 => ?_)⟩
    have r1 := r1.mono s2
    cases r2 with
    | int i =>
      cases r1 with
      | str z =>
        simp only [ixD] at g2
        split at g2
        · rename_i hz
          split at g2
          · rename_i c hc
            exact .inr (.inr ⟨z, i, c, rfl, rfl, hz, hc, g2 H2 F2 S2 Sm.refl _ (.str _)⟩)
          · exact g2.elim
        · exact g2.elim
      | tup hx rx =>
        simp only [ixD] at g2
        split at g2
        · rename_i d hd
          obtain ⟨w, e1, rw_⟩ := reps_at rx hd
          exact .inr (.inl ⟨_, _, i, w, rfl, rfl, SqTm S2.sub hx, e1, g2 H2 F2 S2 Sm.refl _ rw_⟩)
        · exact g2.elim
      | lst hx rx =>
        simp only [ixD] at g2
        split at g2
        · rename_i d hd
          obtain ⟨w, e1, rw_⟩ := reps_at rx hd
          exact .inl ⟨_, _, i, w, rfl, rfl, .of (S2.sub _ _ hx), e1, g2 H2 F2 S2 Sm.refl _ rw_⟩
        · exact g2.elim
      | frz hx rx =>
        simp only [ixD] at g2
        split at g2
        · rename_i d hd
          obtain ⟨w, e1, rw_⟩ := reps_at rx hd
          exact .inl ⟨_, _, i, w, rfl, rfl, SqLm S2.sub hx, e1, g2 H2 F2 S2 Sm.refl _ rw_⟩
        · exact g2.elim
      | _ => exact g2.elim
    | _ => exact (by cases d <;> exact g2.elim)
  | un => rw [e] at hg; exact hg.elim
  | ins p C ns ds => rw [e] at hg; exact hg.elim
theorem AE.lenN {j : Nat} {px : Pos} (h0 : PE X (.Name y py) (tVar j)) (hg : Gl X "len") (hm : X.mg "len" = none) (he : starEach [.Name y py] X.env = (false, eval (.Name y py) X.env) :: starEach [] X.env := by rfl) (hpl : (backTo pos (starEach [] X.env)).any (·.1) = false := by rfl) : AE X W (.Call (.Name "len" px) [.Name y py] [] pos) (mLenN j) := by
  refine ⟨_, pe_callB call_len hg hm PySem.boot_len (pa_cons h0 pa_nil he) (by decide) (by decide) he hpl, fun G σ H F ρ Q S hgd => ?_⟩
  unfold mLenN at hgd
  cases e : ρ.getD j .un with
  | own p xs =>
    rw [e] at hgd
    obtain ⟨a, vs, e1, e2, e3, r⟩ := own_at S e
    exact ⟨_, e1, _, xs.length, rfl, .inl ⟨vs, .of e2, r.length.symm⟩, hgd H F S Sm.refl _ (.int _)⟩
  | val d =>
    rw [e] at hgd
    have q := S.at_ j
    rw [e] at q
    obtain ⟨v, e1, r1⟩ := q
    refine ⟨v, e1, ?_⟩
    cases r1 with
    | str z =>
      simp only [lenD] at hgd
      split at hgd
      · rename_i hz; exact ⟨_, z.length, rfl, ⟨hz, rfl⟩, hgd H F S Sm.refl _ (.int _)⟩
      · exact hgd.elim
    | tup hx rx => exact ⟨_, _, rfl, .inr ⟨_, SqTm S.sub hx, rx.length.symm⟩, hgd H F S Sm.refl _ (.int _)⟩
    | lst hx rx => exact ⟨_, _, rfl, .inl ⟨_, .of (S.sub _ _ hx), rx.length.symm⟩, hgd H F S Sm.refl _ (.int _)⟩
    | frz hx rx => exact ⟨_, _, rfl, .inl ⟨_, SqLm S.sub hx, rx.length.symm⟩, hgd H F S Sm.refl _ (.int _)⟩
    | _ => exact hgd.elim
  | un => rw [e] at hgd; exact hgd.elim
  | ins p C ns ds => rw [e] at hgd; exact hgd.elim
theorem AS.setIx {j : Nat} {p1 : Pos} (hv : AE X W e fv) (h0 : PE X (.Name y py) (tVar j)) (hb : AE X W b fe)
    (hs : swapsWithSole [.Subscript (.Name y py) b p1] e pos.line X.env = pure false := by rfl) (hw : swappedStores [.Subscript (.Name y py) b p1] e X.env = pure none := by rfl) (h1 : (assignEach [.Subscript (.Name y py) b p1] X.env).map (·.2) = [assign (.Subscript (.Name y py) b p1) X.env] := by rfl)
    (ha : ∀ v, assign (.Subscript (.Name y py) b p1) X.env v = (do
      let ov ← holding [v] (eval (.Name y py) X.env)
      let iv ← holding [v, ov] (eval b X.env)
      standAt p1
      holding [v, ov, iv] (setItem ov iv v)
      release [v, ov, iv] []) := by intro _; rfl) : AS X W (.Assign [.Subscript (.Name y py) b p1] e pos) (xSetIx j fv fe) := by
  obtain ⟨tv, pv, qv⟩ := hv
  obtain ⟨tb, pb, qb⟩ := hb
  refine ⟨_, ps_asg pv (pg_sub h0 pb set_list ha) hs hw h1, fun G σ H F ρ Dn S hg => qv G σ H F ρ _ S (GoodS.bind hg fun dv ρ1 H1 F1 S1 s1 g1 v rv => ?_)⟩
  split at g1
  · rename_i p xs e1
    obtain ⟨a, vs, e2, e3, e4, r⟩ := own_at S1 e1
    refine ⟨_, e2, qb G σ H1 F1 ρ1 _ S1 (GoodS.bind g1 fun di ρ2 H2 F2 S2 s2 g2 u ru => ?_)⟩
    split at g2
    · rename_i p2 ys k e5
      obtain ⟨a', ws, f1, f2, f3, r'⟩ := own_at S2 e5
      rw [e2] at f1; cases f1
      cases ru
      split at g2
      · rename_i m hm
        refine ⟨a, ws, k, m, rfl, rfl, f2, by rw [r'.length]; exact hm, ?_⟩
        refine g2 σ _ F2 (S2.change (by rw [e5]; rfl) e2 (fun b o ne h => by rw [upd_ne ne]; exact h) (fun b o h => ?_) Sm.refl (fun _ _ h => .inl h) ⟨a, ws.set m v, rfl, upd_same, f3, r'.set (rv.mono s2) m⟩ rfl (by rw [e5]; rfl)) Sm.refl
        by_cases eb : b = a
        · subst eb; rw [f3] at h; cases h
        · rw [upd_ne eb]; exact S2.sub b o h
      · exact g2.elim
    · exact g2.elim
  · exact g1.elim
theorem AE.app {j : Nat} {ap cp : Pos} (h0 : PE X (.Name y py) (tVar j)) (ha : AE X W e fe) (hst : starEach [e] X.env = (false, eval e X.env) :: starEach [] X.env := by rfl)
    (hbase : attributeBase (.Name y py) "append" X.env (eval (.Name y py) X.env) = eval (.Name y py) X.env := by rfl)
    (hfew : ((backTo cp (starEach [e] X.env)).all (fun x => !x.1) && (backToKw cp (keywordEach [] X.env)).all (fun x => x.1.isSome)
      && decide ([e].length + ([] : List Keyword).length + (if ([] : List Keyword).isEmpty then 0 else 1) < 30)) = true := by rfl)
    (hline : (ap.endLine == cp.line) = true := by rfl) (hplain : (backTo cp (starEach [] X.env)).any (·.1) = false := by rfl) :
    AE X W (.Call (.Attribute (.Name y py) "append" ap) [e] [] cp) (mApp j fe) := by
  obtain ⟨t, p, q⟩ := ha
  refine ⟨_, pe_bm PySem.F.plainAttrs_list PySem.F.slot_list_append PySem.F.type_list_append mt_append h0 (pa_cons p pa_nil hst) hbase hfew hline hst hplain, fun G σ H F ρ Q S hg => ?_⟩
  unfold mApp at hg
  split at hg
  · rename_i p0 xs0 e0
    obtain ⟨a, vs, e1, e2, e3, r⟩ := own_at S e0
    refine ⟨_, e1, .inl ⟨rfl, vs, .of e2⟩, q G σ H F ρ _ S (hg.bind fun v ρ1 H1 F1 S1 s1 g1 w rw_ => ?_)⟩
    split at g1
    · rename_i p1 xs e4
      obtain ⟨a', ws, f1, f2, f3, r'⟩ := own_at S1 e4
      rw [e1] at f1; cases f1
      split at g1
      · rename_i hz
        refine ⟨a, ws, w, rfl, rfl, f2, by rw [r'.length]; exact hz, ?_⟩
        refine g1 _ F1 (S1.change (by rw [e4]; rfl) e1 (fun b o ne h => by rw [upd_ne ne]; exact h) (fun b o h => ?_) Sm.refl (fun _ _ h => .inl h) ⟨a, _, rfl, upd_same, f3, r'.append (.cons rw_ .nil)⟩ rfl (by rw [e4]; rfl)) Sm.refl _ .non
        by_cases eb : b = a
        · subst eb; rw [f3] at h; cases h
        · rw [upd_ne eb]; exact S1.sub b o h
      · exact g1.elim
    · exact g1.elim
  · exact hg.elim
end

/-! ### while -/
def whN (t : M Bool) (b : M Fl) : Nat → M Fl
  | 0, _ => .stuck
  | n + 1, ρ => (t ρ).bind fun c ρ => if c = true then (b ρ).bind fun f ρ => match f with
      | .nx => whN t b n ρ
      | .ct => whN t b n ρ
      | .bk => .ok .nx ρ
      | .rt r => .ok (.rt r) ρ
      | .rn r => .ok (.rn r) ρ
    else .ok .nx ρ
def Ends_ (r : R Fl) : Prop := r ≠ .stuck
open Classical in
noncomputable def xWhile (t : M Bool) (b : M Fl) : M Fl := fun ρ => if h : ∃ n, whN t b n ρ ≠ .stuck then whN t b (Classical.choose h) ρ else .stuck
theorem whN_more (t : M Bool) (b : M Fl) : ∀ (n : Nat) (ρ : Ro), whN t b n ρ ≠ .stuck → whN t b (n + 1) ρ = whN t b n ρ
  | 0, ρ, h => absurd rfl h
  | n + 1, ρ, h => by
    unfold whN at h ⊢
    cases e : t ρ with
    | ok c ρ1 =>
      rw [e] at h
      simp only [R.bind] at h ⊢
      cases c with
      | false => rfl
      | true =>
        simp only [if_true] at h ⊢
        cases e2 : b ρ1 with
        | ok f ρ2 =>
          rw [e2] at h
          cases f with
          | nx => exact whN_more t b n ρ2 h
          | ct => exact whN_more t b n ρ2 h
          | bk => rfl
          | rt d => rfl
          | rn d => rfl
        | exc x ρ2 => rfl
        | stuck => rw [e2] at h; first | done | exact absurd rfl h
    | exc x ρ1 => rfl
    | stuck => rw [e] at h; exact absurd rfl h
theorem whN_add (t : M Bool) (b : M Fl) (n : Nat) (ρ : Ro) (h : whN t b n ρ ≠ .stuck) : ∀ k, whN t b (n + k) ρ = whN t b n ρ
  | 0 => rfl
  | k + 1 => by
    have ih := whN_add t b n ρ h k
    rw [← Nat.add_assoc, whN_more t b (n + k) ρ (by rw [ih]; exact h), ih]
theorem xWhile_of {t : M Bool} {b : M Fl} {n : Nat} {ρ : Ro} {r : R Fl} (h : whN t b n ρ = r) (hr : r ≠ .stuck) : xWhile t b ρ = r := by
  have ex : ∃ n, whN t b n ρ ≠ .stuck := ⟨n, by rw [h]; exact hr⟩
  unfold xWhile
  rw [dif_pos ex]
  have hc := Classical.choose_spec ex
  have a := whN_add t b _ ρ hc n
  have c := whN_add t b n ρ (by rw [h]; exact hr) (Classical.choose ex)
  rw [← a, Nat.add_comm, c, h]
theorem xWhile_fuel {t : M Bool} {b : M Fl} {ρ : Ro} : ∃ n, xWhile t b ρ = whN t b n ρ := by
  unfold xWhile
  by_cases h : ∃ n, whN t b n ρ ≠ .stuck
  · rw [dif_pos h]; exact ⟨_, rfl⟩
  · rw [dif_neg h]; exact ⟨0, rfl⟩
/-- one turn of a while -/
theorem xWhile_eq (t : M Bool) (b : M Fl) (ρ : Ro) : xWhile t b ρ = (t ρ).bind fun c ρ => if c = true then (b ρ).bind fun f ρ => match f with
      | .nx => xWhile t b ρ
      | .ct => xWhile t b ρ
      | .bk => .ok .nx ρ
      | .rt r => .ok (.rt r) ρ
      | .rn r => .ok (.rn r) ρ
    else .ok .nx ρ := by
  cases e : t ρ with
  | stuck =>
    obtain ⟨n, hn⟩ := xWhile_fuel (t := t) (b := b) (ρ := ρ)
    rw [hn]
    cases n with
    | zero => rfl
    | succ n => unfold whN; rw [e]; rfl
  | exc x ρ1 => exact xWhile_of (n := 1) (by unfold whN; rw [e]; rfl) (fun h => by cases h)
  | ok c ρ1 =>
    cases c with
    | false => exact xWhile_of (n := 1) (by unfold whN; rw [e]; rfl) (fun h => by cases h)
    | true =>
      simp only [R.bind, if_true]
      cases e2 : b ρ1 with
      | stuck =>
        obtain ⟨n, hn⟩ := xWhile_fuel (t := t) (b := b) (ρ := ρ)
        rw [hn]
        cases n with
        | zero => rfl
        | succ n => unfold whN; rw [e]; simp only [R.bind, if_true]; rw [e2]
      | exc x ρ2 => exact xWhile_of (n := 1) (by unfold whN; rw [e]; simp only [R.bind, if_true]; rw [e2]) (fun h => by cases h)
      | ok f ρ2 =>
        have again : ∀ f, (f = .nx ∨ f = .ct) → b ρ1 = .ok f ρ2 → xWhile t b ρ = xWhile t b ρ2 := fun f hf e2 => by
          obtain ⟨n, hn⟩ := xWhile_fuel (t := t) (b := b) (ρ := ρ2)
          have one : whN t b (n + 1) ρ = whN t b n ρ2 := by
            rw [whN, e]; simp only [R.bind, if_true]; rw [e2]
            rcases hf with rfl | rfl <;> rfl
          by_cases hs : whN t b n ρ2 = .stuck
          · -- nothing ends
            rw [hn, hs]
            obtain ⟨m, hm⟩ := xWhile_fuel (t := t) (b := b) (ρ := ρ)
            rw [hm]
            cases m with
            | zero => rfl
            | succ m =>
              have om : whN t b (m + 1) ρ = whN t b m ρ2 := by
                rw [whN, e]; simp only [R.bind, if_true]; rw [e2]
                rcases hf with rfl | rfl <;> rfl
              rw [om]
              by_cases hs2 : whN t b m ρ2 = .stuck
              · exact hs2
              · exfalso
                have := xWhile_of (t := t) (b := b) (n := m) (ρ := ρ2) rfl hs2
                rw [hn, hs] at this
                exact hs2 this.symm
          · rw [hn]; exact xWhile_of (n := n + 1) one hs
        cases f with
        | nx => exact again .nx (.inl rfl) e2
        | ct => exact again .ct (.inr rfl) e2
        | bk => exact xWhile_of (n := 1) (by unfold whN; rw [e]; simp only [R.bind, if_true]; rw [e2]) (fun h => by cases h)
        | rt d => exact xWhile_of (n := 1) (by unfold whN; rw [e]; simp only [R.bind, if_true]; rw [e2]) (fun h => by cases h)
        | rn d => exact xWhile_of (n := 1) (by unfold whN; rw [e]; simp only [R.bind, if_true]; rw [e2]) (fun h => by cases h)
section
variable {X : Cx} {W : WX}
theorem AS.while_ {c : Expr} {body : List Stmt} {t : M Bool} {b : M Fl} {pos : Pos} (hp : PassesOwn (model X.prog X.w) X.A X.env X.xe) (hc : AT X W c t) (hb : AB X W body b) : AS X W (.While c body [] pos) (xWhile t b) := by
  obtain ⟨tc, pc, qc⟩ := hc
  obtain ⟨tb, pb, qb⟩ := hb
  refine ⟨_, ps_while hp pc pb, fun G σ H F ρ Dn S hg => ?_⟩
  obtain ⟨n, hn⟩ := xWhile_fuel (t := t) (b := b) (ρ := ρ)
  rw [hn] at hg
  refine ⟨fun m σ' H' => ∃ F' ρ', Stt X.K G σ' H' F' ρ' ∧ Sm F F' ∧ GoodS X.K G W F' (whN t b m ρ') Dn, ⟨n, F, ρ, S, Sm.refl, hg⟩, ?_⟩
  rintro m σ' H' ⟨F', ρ', S', s', hgm⟩
  cases m with
  | zero => exact hgm.elim
  | succ m =>
    refine qc G σ' H' F' ρ' _ S' (GoodS.bind (r := t ρ') hgm fun k ρ1 H1 F1 S1 s1 g1 => ?_)
    cases k with
    | false =>
      rw [if_neg Bool.false_ne_true] at g1
      show if false = true then _ else Dn.nx σ' H1
      rw [if_neg Bool.false_ne_true]
      exact g1 σ' H1 F1 S1 Sm.refl
    | true =>
      rw [if_pos rfl] at g1
      show if true = true then _ else Dn.nx σ' H1
      rw [if_pos rfl]
      refine ⟨fun σ2 H2 => ∃ F2 ρ2, Stt X.K G σ2 H2 F2 ρ2 ∧ Sm F F2 ∧ GoodS X.K G W F2 (whN t b m ρ2) Dn, fun σ2 H2 hh => ⟨m, Nat.lt_succ_self m, hh⟩, qb G σ' H1 F1 ρ1 _ S1 ?_⟩
      cases e : b ρ1 with
      | stuck => rw [e] at g1; exact g1.elim
      | exc x ρ2 => rw [e] at g1; exact g1
      | ok f ρ2 =>
        rw [e] at g1
        cases f with
        | nx => exact fun σ2 H2 F2 S2 s2 => ⟨F2, ρ2, S2, s'.tr (s1.tr s2), GoodS.mono s2 g1⟩
        | ct => exact fun σ2 H2 F2 S2 s2 => ⟨F2, ρ2, S2, s'.tr (s1.tr s2), GoodS.mono s2 g1⟩
        | bk => exact g1
        | rt d => exact g1
        | rn d => exact g1
end

/-! ### comprehensions -/
def wipeR (ρ : Ro) : List Nat → Ro
  | [] => ρ
  | v :: vs => (wipeR ρ vs).set v .un
/-- the slots vs as they stood ahead -/
def backR (ρ0 : Ro) (ρ : Ro) : List Nat → Ro
  | [] => ρ
  | v :: vs => (backR ρ0 ρ vs).set v (ρ0.getD v .un)
def freeR (ρ : Ro) (vs : List Nat) : Bool := vs.all fun v => !(ρ.getD v .un).isIo
def plainR (ρ : Ro) (vs : List Nat) : Bool := vs.all fun v => !(ρ.getD v .un).isOwn
def lcM (vs : List Nat) (t : Tg) (c : M Bool) (el : M D) : List D → List D → Ro → R (List D)
  | [], acc, ρ => .ok acc ρ
  | d :: ds, acc, ρ => if plainR ρ vs = true then (putT t d (wipeR ρ vs)).bind fun _ ρ1 => (c ρ1).bind fun k ρ2 =>
      if k = true then (el ρ2).bind fun y ρ3 => if acc.length < sizeLine ∧ freeR ρ3 vs = true then lcM vs t c el ds (acc ++ [y]) (backR ρ ρ3 vs) else .stuck
      else if freeR ρ2 vs = true then lcM vs t c el ds acc (backR ρ ρ2 vs) else .stuck
    else .stuck
/-- no exception leaves -/
def R.nox {α : Type} (r : R α) : R α := match r with
  | .ok a ρ => .ok a ρ
  | _ => .stuck
def mLc (it : M (List D)) (vs : List Nat) (t : Tg) (c : M Bool) (el : M D) : M (List D) := fun ρ => (it ρ).bind fun ds ρ => (lcM vs t c el ds [] ρ).nox
def tYesM : M Bool := fun ρ => .ok true ρ
abbrev W0 : WX := fun _ _ _ _ => False
def ATs (X : Cx) (W : WX) (es : List Expr) (f : M Bool) : Prop := ∃ t, PTs X es t ∧ ∀ G σ H F ρ Q, Stt X.K G σ H F ρ → Good X.K G W σ F (f ρ) (PB Q) → t σ H Q
end Mr
namespace Mr
open PySem PySem.Spec PyProof.Rows L2

/-! ### comprehensions: what they do is what lcM says -/
theorem getD_wipe (ρ : Ro) : ∀ (vs : List Nat) (i : Nat), (wipeR ρ vs).getD i .un = if i ∈ vs then .un else ρ.getD i .un
  | [], i => by simp [wipeR]
  | v :: vs, i => by
    unfold wipeR
    rw [getD_set, getD_wipe ρ vs i]
    by_cases h : v = i
    · subst h
      by_cases l : v < (wipeR ρ vs).length
      · simp [l]
      · rw [if_neg (fun c => l c.2)]
        simp only [List.mem_cons, true_or, if_true]
        split
        · rfl
        · rename_i hm
          have hl : ∀ vs : List Nat, (wipeR ρ vs).length = ρ.length := fun vs => by
            induction vs with
            | nil => rfl
            | cons a r ih => unfold wipeR; rw [List.length_set, ih]
          rw [hl] at l
          rw [List.getD_eq_getElem?_getD, List.getElem?_eq_none (by omega)]; rfl
    · rw [if_neg (fun c => h c.1)]
      simp [List.mem_cons, Ne.symm h]
theorem len_wipeR (ρ : Ro) : ∀ vs : List Nat, (wipeR ρ vs).length = ρ.length
  | [] => rfl
  | v :: vs => by unfold wipeR; rw [List.length_set, len_wipeR ρ vs]
theorem get_wipe (σ : St) : ∀ (vs : List Nat) (i : Nat), i ∉ vs → (wipe σ vs)[i]? = σ[i]?
  | [], i, _ => rfl
  | v :: vs, i, h => by
    unfold wipe
    rw [List.getElem?_set_ne (fun e => h (by simp [e])), get_wipe σ vs i (fun hm => h (List.mem_cons_of_mem _ hm))]
theorem wipe_same {σ τ : St} : ∀ (vs : List Nat), σ.length = τ.length → (∀ i, i ∉ vs → σ[i]? = τ[i]?) → wipe σ vs = wipe τ vs := fun vs hl h => by
  apply List.ext_getElem?
  intro i
  by_cases hi : i ∈ vs
  · have key : ∀ (α : St) (vs : List Nat), i ∈ vs → (wipe α vs)[i]? = if i < α.length then some none else none := fun α vs => by
      induction vs with
      | nil => intro h; cases h
      | cons v r ih =>
        intro h
        unfold wipe
        rw [get_setσ, wipe_length]
        by_cases hv : v = i
        · subst hv
          by_cases l : v < α.length
          · simp [l]
          · rw [if_neg (fun c => l c.2), if_neg l, List.getElem?_eq_none (by rw [wipe_length]; omega)]
        · rw [if_neg (fun c => hv c.1)]
          exact ih ((List.mem_cons.mp h).resolve_left (Ne.symm hv))
    rw [key σ vs hi, key τ vs hi, hl]
  · rw [get_wipe σ vs i hi, get_wipe τ vs i hi, h i hi]
section
variable {K : PySem.W.Frag} {G : Ent} {σ σ2 : St} {H F : Hp} {ρ ρ2 : Ro}
/-- the block's own slots are forgotten -/
theorem Stt.wiped (S : Stt K G σ H F ρ) : ∀ (vs : List Nat), (∀ v ∈ vs, (ρ.getD v .un).isIo = false) → Stt K G (wipe σ vs) H F (wipeR ρ vs)
  | [], _ => S
  | v :: vs, h => by
    have ih := Stt.wiped S vs fun u hu => h u (List.mem_cons_of_mem _ hu)
    refine ih.drop (i := v) (v := none) ?_
    rw [getD_wipe]
    split
    · rfl
    · exact h v (List.mem_cons_self ..)
/-- .. and stand again as they stood -/
theorem Stt.backed {ρ0 : Ro} (S : Stt K G σ2 H F ρ2) (hl : σ.length = σ2.length) : ∀ (vs ws : List Nat), (∀ v ∈ vs, (ρ2.getD v .un).isIo = false) → (∀ v ∈ vs, (ρ0.getD v .un).isOwn = false ∧ SlotOk K H F (σ[v]?) (ρ0.getD v .un)) →
    ∃ τ, Stt K G τ H F (backR ρ0 ρ2 vs) ∧ (∀ i, i ∉ vs → τ[i]? = σ2[i]?) ∧ (∀ i ∈ vs, τ[i]? = σ[i]?) ∧ τ.length = σ2.length
  | [], _, _, _ => ⟨σ2, S, fun _ _ => rfl, fun _ h => (nomatch h), rfl⟩
  | v :: vs, ws, h1, h2 => by
    obtain ⟨τ, S1, o1, o2, l1⟩ := Stt.backed S hl vs ws (fun u hu => h1 u (List.mem_cons_of_mem _ hu)) fun u hu => h2 u (List.mem_cons_of_mem _ hu)
    obtain ⟨no, ok⟩ := h2 v (List.mem_cons_self ..)
    have hio : ((backR ρ0 ρ2 vs).getD v .un).isIo = false := by
      have key : ∀ ws : List Nat, (∀ u ∈ ws, (ρ0.getD u .un).isOwn = false) → ((backR ρ0 ρ2 ws).getD v .un).isIo = false := fun ws => by
        induction ws with
        | nil => intro _; exact h1 v (List.mem_cons_self ..)
        | cons u r ih =>
          intro hw
          unfold backR
          rw [getD_set]
          split
          · have := hw u (List.mem_cons_self ..)
            cases e : ρ0.getD u .un with
            | un => rfl
            | val d => rfl
            | own p xs => rw [e] at this; cases this
            | ins p C ns ds => rw [e] at this; cases this
          · exact ih fun x hx => hw x (List.mem_cons_of_mem _ hx)
      exact key vs fun u hu => (h2 u (List.mem_cons_of_mem _ hu)).1
    have hio2 : (ρ0.getD v .un).isIo = false := by
      cases e : ρ0.getD v .un with
      | un => rfl
      | val d => rfl
      | own p xs => rw [e] at no; cases no
      | ins p C ns ds => rw [e] at no; cases no
    by_cases hv : v < τ.length
    · obtain ⟨x, hx⟩ : ∃ x, σ[v]? = some x := ⟨_, List.getElem?_eq_getElem (by omega)⟩
      rw [hx] at ok
      refine ⟨τ.set v x, S1.set hio ok hio2 (fun hh => by rw [no] at hh; cases hh), fun i hi => ?_, fun i hi => ?_, by rw [List.length_set, l1]⟩
      · rw [List.getElem?_set_ne (fun e => hi (by simp [e]))]
        exact o1 i fun hm => hi (List.mem_cons_of_mem _ hm)
      · by_cases e : v = i
        · subst e; rw [List.getElem?_set_self hv, hx]
        · rw [List.getElem?_set_ne e]
          exact o2 i ((List.mem_cons.mp hi).resolve_left (Ne.symm e))
    · have hs : (backR ρ0 ρ2 vs).set v (ρ0.getD v .un) = backR ρ0 ρ2 vs := List.set_eq_of_length_le (by rw [S1.len]; omega)
      refine ⟨τ, by unfold backR; rw [hs]; exact S1, fun i hi => o1 i fun hm => hi (List.mem_cons_of_mem _ hm), fun i hi => ?_, l1⟩
      by_cases e : v = i
      · subst e; rw [List.getElem?_eq_none (by omega), List.getElem?_eq_none (by omega)]
      · exact o2 i ((List.mem_cons.mp hi).resolve_left (Ne.symm e))
end
mutual
theorem len_putT : ∀ (t : Tg) (d : D) (ρ ρ' : Ro) (u : Unit), putT t d ρ = .ok u ρ' → ρ'.length = ρ.length
  | .sl i, d, ρ, ρ', u, h => by
    unfold putT at h
    split at h
    · cases h
    · cases h; rw [List.length_set]
  | .tp ts, .tup xs, ρ, ρ', u, h => by
    unfold putT at h
    split at h
    · exact len_putTs ts xs ρ ρ' u h
    · cases h
  | .tp ts, .non, ρ, ρ', u, h => by unfold putT at h; cases h
  | .tp ts, .bl _, ρ, ρ', u, h => by unfold putT at h; cases h
  | .tp ts, .int _, ρ, ρ', u, h => by unfold putT at h; cases h
  | .tp ts, .str _, ρ, ρ', u, h => by unfold putT at h; cases h
  | .tp ts, .lst _, ρ, ρ', u, h => by unfold putT at h; cases h
  | .tp ts, .frz _, ρ, ρ', u, h => by unfold putT at h; cases h
  | .tp ts, .obj _ _ _, ρ, ρ', u, h => by unfold putT at h; cases h
  | .tp ts, .opq _, ρ, ρ', u, h => by unfold putT at h; cases h
theorem len_putTs : ∀ (ts : List Tg) (ds : List D) (ρ ρ' : Ro) (u : Unit), putTs ts ds ρ = .ok u ρ' → ρ'.length = ρ.length
  | [], [], ρ, ρ', u, h => by unfold putTs at h; cases h; rfl
  | [], _ :: _, ρ, ρ', u, h => by unfold putTs at h; cases h
  | _ :: _, [], ρ, ρ', u, h => by unfold putTs at h; cases h
  | t :: ts, d :: ds, ρ, ρ', u, h => by
    unfold putTs at h
    cases e : putT t d ρ with
    | ok v ρ1 =>
      rw [e] at h
      rw [len_putTs ts ds ρ1 ρ' u h, len_putT t d ρ ρ1 v e]
    | exc y ρ1 => rw [e] at h; cases h
    | stuck => rw [e] at h; cases h
end
theorem not_own_io {sv : SV} (h : sv.isOwn = false) : sv.isIo = false := by
  cases sv with
  | un => rfl
  | val d => rfl
  | own p xs => cases h
  | ins p C ns ds => cases h
section
variable {X : Cx} {W : WX} {elt tg iter c : Expr} {ifs : List Expr} {scope : Scope} {own : List (Str × Nat)} {pos : Pos} {it : M (List D)} {t : Tg} {tc : M Bool} {el : M D}
theorem ATs.nil : ATs X W [] tYesM := ⟨_, pts_nil, fun G σ H F ρ Q S hg => hg H F S Sm.refl⟩
theorem ATs.one (h : AT X W c tc) : ATs X W [c] tc := by
  obtain ⟨u, p, q⟩ := h
  exact ⟨_, pts_one p, q⟩
/-- the context of the block -/
abbrev blkX (X : Cx) (scope : Scope) (s : Shared) (H : Hp) (C : Addr) (cl : List (Str × Addr)) (fp : List Addr) : Cx := X.blk s H scope (compEnvC scope cl C X.env) fp
/-- the readings of a comprehension's parts, and what they are worth -/
theorem lc_parts (hi : AI X W tg iter it) (hsl : ∀ i ∈ slT t, i ∈ own.map (·.2))
    (hg : ∀ s H C cl fp, AG (blkX X scope s H C cl fp) tg t) (ht : ∀ s H C cl fp, ATs (blkX X scope s H C cl fp) W0 ifs tc) (he : ∀ s H C cl fp, AE (blkX X scope s H C cl fp) W0 elt el) :
    ∃ wi g tt te, PI X tg iter wi ∧ (∀ s H C cl fp, PG (blkX X scope s H C cl fp) tg g) ∧ (∀ s H C cl fp, PTs (blkX X scope s H C cl fp) ifs tt) ∧ (∀ s H C cl fp, PE (blkX X scope s H C cl fp) elt te) ∧
      ∀ G σ H F ρ Q, Stt X.K G σ H F ρ → Good X.K G W σ F (mLc it (own.map (·.2)) t tc el ρ) (fun ds ρ' H' F' => ∀ a vs H2, Stt X.K ⟨G.H0, G.F0, G.io, (a, .lst vs) :: G.xt⟩ σ H2 F' ρ' → Reps X.K F' vs ds → Q (.ref a) H2) → tLc wi g tt te (own.map (·.2)) σ H Q := by
  obtain ⟨wi, pi, qi⟩ := hi
  -- one reading for every block
  let g : TG := fun v σ H Q => ∀ s H0 C cl fp, (Classical.choose (hg s H0 C cl fp)) v σ H Q
  let tt : TT := fun σ H Q => ∀ s H0 C cl fp, (Classical.choose (ht s H0 C cl fp)) σ H Q
  let te : TE := fun σ H Q => ∀ s H0 C cl fp, (Classical.choose (he s H0 C cl fp)) σ H Q
  have pg : ∀ s H C cl fp, PG (blkX X scope s H C cl fp) tg g := fun s H C cl fp => ⟨fun pins s1 σ H1 v u Q I r h => (Classical.choose_spec (hg s H C cl fp)).1.run pins s1 σ H1 v u Q I r (h s H C cl fp)⟩
  have pt : ∀ s H C cl fp, PTs (blkX X scope s H C cl fp) ifs tt := fun s H C cl fp => ⟨fun pins s1 σ H1 Q I h => (Classical.choose_spec (ht s H C cl fp)).1.run pins s1 σ H1 Q I (h s H C cl fp)⟩
  have pe : ∀ s H C cl fp, PE (blkX X scope s H C cl fp) elt te := fun s H C cl fp => ⟨fun pins s1 σ H1 Q I h => (Classical.choose_spec (he s H C cl fp)).1.run pins s1 σ H1 Q I (h s H C cl fp)⟩
  have qg : ∀ G σ H F ρ v d Q, Stt X.K G σ H F ρ → Rep X.K F v d → GoodT X.K G F σ (slT t) (putT t d ρ) Q → g v σ H Q := fun G σ H F ρ v d Q S r h s H0 C cl fp => (Classical.choose_spec (hg s H0 C cl fp)).2 G σ H F ρ v d Q S r h
  have qt : ∀ G σ H F ρ Q, Stt X.K G σ H F ρ → Good X.K G W0 σ F (tc ρ) (PB Q) → tt σ H Q := fun G σ H F ρ Q S h s H0 C cl fp => (Classical.choose_spec (ht s H0 C cl fp)).2 G σ H F ρ Q S h
  have qe : ∀ G σ H F ρ Q, Stt X.K G σ H F ρ → Good X.K G W0 σ F (el ρ) (PD X.K Q) → te σ H Q := fun G σ H F ρ Q S h s H0 C cl fp => (Classical.choose_spec (he s H0 C cl fp)).2 G σ H F ρ Q S h
  refine ⟨wi, g, tt, te, pi, pg, pt, pe, fun G σ H F ρ Q S hgd => qi G σ H F ρ _ S (hgd.bind fun ds ρ1 H1 F1 S1 s1 g1 J hJ Da hDa => ?_)⟩
  generalize hvs : own.map (·.2) = vs at hsl g1 ⊢
  -- the list at Da waits
  let GX : List V → Ent := fun ws => ⟨G.H0, G.F0, G.io, (Da, .lst ws) :: G.xt⟩
  refine ⟨fun i m H' => i + m = ds.length ∧ ∃ F' ρ' ws acc, Stt X.K (GX ws) σ H' F' ρ' ∧ Sm F1 F' ∧ Reps X.K F' ws acc ∧ Good X.K G W σ F' ((lcM vs t tc el (ds.drop i) acc ρ').nox) (fun ds ρ' H' F' => ∀ a vs H2, Stt X.K ⟨G.H0, G.F0, G.io, (a, .lst vs) :: G.xt⟩ σ H2 F' ρ' → Reps X.K F' vs ds → Q (.ref a) H2),
    ⟨ds.length, by omega, F1, ρ1, [], [], S1.xtNew hDa, Sm.refl, .nil, by rw [List.drop_zero]; exact g1⟩, ?_⟩
  rintro i m H' ⟨hm, F', ρ', ws, acc, S', s', ra, hgf⟩
  obtain ⟨stop, go⟩ := hJ i H' F' s' S'.sub
  by_cases hlt : i < ds.length
  · rw [List.drop_eq_getElem_cons hlt] at hgf
    obtain ⟨hgo, hy⟩ := go ds[i] (List.getElem?_eq_getElem hlt)
    refine .inr ⟨hgo, fun H2 => (i + 1) + (m - 1) = ds.length ∧ ∃ F' ρ' ws acc, Stt X.K (GX ws) σ H2 F' ρ' ∧ Sm F1 F' ∧ Reps X.K F' ws acc ∧ Good X.K G W σ F' ((lcM vs t tc el (ds.drop (i + 1)) acc ρ').nox) (fun ds ρ' H' F' => ∀ a vs H2, Stt X.K ⟨G.H0, G.F0, G.io, (a, .lst vs) :: G.xt⟩ σ H2 F' ρ' → Reps X.K F' vs ds → Q (.ref a) H2),
      fun H2 hn => ⟨m - 1, by omega, hn⟩, fun x H2 hyl => ?_⟩
    obtain ⟨F2, A2, r2⟩ := hy x H2 hyl
    have S2 := S'.grow A2.h A2.sub A2.f A2.new
    have ra2 := ra.mono A2.f
    unfold lcM at hgf
    by_cases hpl : plainR ρ' vs = true
    · rw [if_pos hpl] at hgf
      have hpl' : ∀ v ∈ vs, (ρ'.getD v .un).isOwn = false := fun v hv => by
        have := List.all_eq_true.mp hpl v hv
        simpa using this
      have S3 := S2.wiped vs fun v hv => not_own_io (hpl' v hv)
      refine qg (GX ws) (wipe σ vs) H2 F2 (wipeR ρ' vs) x _ _ S3 r2 ?_
      cases e : putT t ds[i] (wipeR ρ' vs) with
      | ok u ρ3 =>
        rw [e] at hgf
        refine fun σ3 H3 F3 S4 s4 o4 => ?_
        have l3 : σ3.length = (wipe σ vs).length := by
          rw [← S4.len, len_putT _ _ _ _ _ e, ← S3.len]
        have w3 : wipe σ3 vs = wipe σ vs := by
          refine wipe_same vs (by rw [l3, wipe_length]) fun j hj => ?_
          rw [o4 j fun hm => hj (hsl j hm), get_wipe σ vs j hj]
        have o3 : ∀ j, j ∉ vs → σ3[j]? = σ[j]? := fun j hj => by rw [o4 j fun hm => hj (hsl j hm), get_wipe σ vs j hj]
        refine ⟨w3, ?_⟩
        have ra3 := ra2.mono s4
        -- back to the slots of the def
        have back : ∀ {ws' : List V} {H6 F6 : Hp} {ρ6 : Ro}, Stt X.K (GX ws') σ3 H6 F6 ρ6 → Sm F3 F6 → freeR ρ6 vs = true → Stt X.K (GX ws') σ H6 F6 (backR ρ' ρ6 vs) := fun {ws' H6 F6 ρ6} S6 s6 hf => by
          have hf' : ∀ v ∈ vs, (ρ6.getD v .un).isIo = false := fun v hv => by
            have := List.all_eq_true.mp hf v hv
            simpa using this
          obtain ⟨τ, Sτ, t1, t2, tl⟩ := S6.backed (σ := σ) (ρ0 := ρ') (by rw [l3, wipe_length]) vs vs hf' fun v hv => ⟨hpl' v hv, by
            have q := S'.at_ v
            have no := hpl' v hv
            cases ev : ρ'.getD v .un with
            | un => trivial
            | val d => rw [ev] at q; obtain ⟨w, e1, r⟩ := q; exact ⟨w, e1, r.mono (A2.f.tr (s4.tr s6))⟩
            | own p xs => rw [ev] at no; cases no
            | ins p C ns dd => rw [ev] at no; cases no⟩
          have eτ : τ = σ := by
            apply List.ext_getElem?
            intro j
            by_cases hj : j ∈ vs
            · exact t2 j hj
            · rw [t1 j hj, o3 j hj]
          rw [eτ] at Sτ
          exact Sτ
        have hgf : Good X.K G W σ F3 (((tc ρ3).bind fun k ρ2 =>
            if k = true then (el ρ2).bind fun y ρ3 => if acc.length < sizeLine ∧ freeR ρ3 vs = true then lcM vs t tc el (ds.drop (i + 1)) (acc ++ [y]) (backR ρ' ρ3 vs) else .stuck
            else if freeR ρ2 vs = true then lcM vs t tc el (ds.drop (i + 1)) acc (backR ρ' ρ2 vs) else .stuck).nox) _ := Good.mono (A2.f.tr s4) hgf
        refine qt (GX ws) σ3 H3 F3 ρ3 _ S4 ?_
        cases ec : tc ρ3 with
        | ok k ρ4 =>
          rw [ec] at hgf
          refine fun H5 F5 S5 s5 => ?_
          have ra5 := ra3.mono s5
          cases k with
          | true =>
            show if true = true then _ else _
            rw [if_pos rfl]
            refine qe (GX ws) σ3 H5 F5 ρ4 _ S5 ?_
            have hgf : Good X.K G W σ F5 (((el ρ4).bind fun y ρ3 => if acc.length < sizeLine ∧ freeR ρ3 vs = true then lcM vs t tc el (ds.drop (i + 1)) (acc ++ [y]) (backR ρ' ρ3 vs) else .stuck).nox) _ := Good.mono s5 hgf
            cases ee : el ρ4 with
            | ok y ρ5 =>
              rw [ee] at hgf
              refine fun H6 F6 S6 s6 v rv => ?_
              have hgf : Good X.K G W σ F6 ((if acc.length < sizeLine ∧ freeR ρ5 vs = true then lcM vs t tc el (ds.drop (i + 1)) (acc ++ [y]) (backR ρ' ρ5 vs) else .stuck).nox) _ := Good.mono s6 hgf
              split at hgf
              · rename_i hz
                have S7 := back S6 (s5.tr s6) hz.2
                obtain ⟨x1, x2, x3, x4⟩ := S6.xt (Da, .lst ws) (List.mem_cons_self ..)
                refine ⟨ws, x1, by rw [ra.length]; exact hz.1, by omega, F6, _, ws ++ [v], acc ++ [y], S7.xtUpd, s'.tr (A2.f.tr (s4.tr (s5.tr s6))), (ra5.mono s6).append (.cons rv .nil), hgf⟩
              · exact hgf.elim
            | exc xx ρ5 => rw [ee] at hgf; exact hgf.elim
            | stuck => rw [ee] at hgf; exact hgf.elim
          | false =>
            show if false = true then _ else _
            rw [if_neg Bool.false_ne_true]
            have hgf : Good X.K G W σ F5 ((if freeR ρ4 vs = true then lcM vs t tc el (ds.drop (i + 1)) acc (backR ρ' ρ4 vs) else .stuck).nox) _ := Good.mono s5 hgf
            split at hgf
            · rename_i hz
              exact ⟨by omega, F5, _, ws, acc, back S5 s5 hz, s'.tr (A2.f.tr (s4.tr s5)), ra5, hgf⟩
            · exact hgf.elim
        | exc xx ρ4 => rw [ec] at hgf; exact hgf.elim
        | stuck => rw [ec] at hgf; exact hgf.elim
      | exc xx ρ3 => rw [e] at hgf; exact hgf.elim
      | stuck => rw [e] at hgf; exact hgf.elim
    · rw [if_neg hpl] at hgf; exact hgf.elim
  · have e0 : ds.drop i = [] := List.drop_eq_nil_of_le (by omega)
    rw [e0] at hgf
    have hgf : Good X.K G W σ F' (.ok acc ρ') (fun ds ρ' H' F' => ∀ a vs H2, Stt X.K ⟨G.H0, G.F0, G.io, (a, .lst vs) :: G.xt⟩ σ H2 F' ρ' → Reps X.K F' vs ds → Q (.ref a) H2) := hgf
    exact .inl ⟨stop (by omega), hgf H' F' S'.xtDrop Sm.refl Da ws H' S' ra⟩
theorem AN.lc (hc : X.calm = true) (hN : X.N.Nodup) (hi : AI X W tg iter it) (ok : BlkOk X.N X.env.scope scope own) (hsl : ∀ i ∈ slT t, i ∈ own.map (·.2))
    (hg : ∀ s H C cl fp, AG (blkX X scope s H C cl fp) tg t) (ht : ∀ s H C cl fp, ATs (blkX X scope s H C cl fp) W0 ifs tc) (he : ∀ s H C cl fp, AE (blkX X scope s H C cl fp) W0 elt el)
    (hs : ∀ x, foldedSetIterable iter X.env x = pure x := by intro _; rfl) : AN X W (.ListComp elt [⟨tg, iter, ifs, 0⟩] scope pos) (mLc it (own.map (·.2)) t tc el) := by
  obtain ⟨wi, g, tt, te, pi, pg, pt, pe, q⟩ := lc_parts hi hsl hg ht he
  exact ⟨_, pe_lc hc hN pi ok pg pt pe hs, q⟩
/-- name = [..], the name a local -/
theorem AS.setLc {i : Nat} {y : Str} {py spos : Pos} (hc : X.calm = true) (hN : X.N.Nodup) (hy : X.N[i]? = some y) (hyl : X.env.scope.names.lookup y = some .local)
    (hsw : swapsWith (.ListComp elt [⟨tg, iter, ifs, 0⟩] scope pos) (some (.Name y py)) spos.line X.env = pure true) (hi : AI X W tg iter it) (ok : BlkOk X.N X.env.scope scope own) (hsl : ∀ i ∈ slT t, i ∈ own.map (·.2))
    (hg : ∀ s H C cl fp, AG (blkX X scope s H C cl fp) tg t) (ht : ∀ s H C cl fp, ATs (blkX X scope s H C cl fp) W0 ifs tc) (he : ∀ s H C cl fp, AE (blkX X scope s H C cl fp) W0 elt el)
    (hs : ∀ x, foldedSetIterable iter X.env x = pure x := by intro _; rfl) : AS X W (.Assign [.Name y py] (.ListComp elt [⟨tg, iter, ifs, 0⟩] scope pos) spos) (xPut (.sl i) (mOfN (mLc it (own.map (·.2)) t tc el))) := by
  obtain ⟨wi, g, tt, te, pi, pg, pt, pe, q⟩ := lc_parts hi hsl hg ht he
  refine ⟨_, ps_setLc hc hN hy hyl hsw pi ok pg pt pe hs, fun G σ H F ρ Dn S hgd => ?_⟩
  have hgd : GoodS X.K G W F ((mOfN (mLc it (own.map (·.2)) t tc el) ρ).bind fun d ρ => (putT (.sl i) d ρ).bind fun _ ρ => .ok .nx ρ) Dn := hgd
  unfold mOfN at hgd
  have h2 : GoodS X.K G W F ((mLc it (own.map (·.2)) t tc el ρ).bind fun ds ρ => (putT (.sl i) (.lst ds) ρ).bind fun _ ρ => .ok .nx ρ) Dn := by
    cases e : mLc it (own.map (·.2)) t tc el ρ <;> (rw [e] at hgd; exact hgd)
  refine q G σ H F ρ _ S (GoodS.bind h2 fun ds ρ1 H1 F1 S1 s1 g1 a vs H2 S2 r => ?_)
  obtain ⟨S3, s3⟩ := S2.xtFreeze
  unfold putT at g1
  split at g1
  · exact g1.elim
  · rename_i hh
    exact g1 _ H2 _ (S3.setVal (by simpa using hh) (.lst upd_same (r.mono s3))) s3
/-- .. to be changed later -/
theorem AS.ownLc {i : Nat} {y : Str} {py spos : Pos} (hc : X.calm = true) (hN : X.N.Nodup) (hy : X.N[i]? = some y) (hyl : X.env.scope.names.lookup y = some .local)
    (hsw : swapsWith (.ListComp elt [⟨tg, iter, ifs, 0⟩] scope pos) (some (.Name y py)) spos.line X.env = pure true) (hi : AI X W tg iter it) (ok : BlkOk X.N X.env.scope scope own) (hsl : ∀ i ∈ slT t, i ∈ own.map (·.2))
    (hg : ∀ s H C cl fp, AG (blkX X scope s H C cl fp) tg t) (ht : ∀ s H C cl fp, ATs (blkX X scope s H C cl fp) W0 ifs tc) (he : ∀ s H C cl fp, AE (blkX X scope s H C cl fp) W0 elt el)
    (hs : ∀ x, foldedSetIterable iter X.env x = pure x := by intro _; rfl) : AS X W (.Assign [.Name y py] (.ListComp elt [⟨tg, iter, ifs, 0⟩] scope pos) spos) (xOwn i (mLc it (own.map (·.2)) t tc el)) := by
  obtain ⟨wi, g, tt, te, pi, pg, pt, pe, q⟩ := lc_parts hi hsl hg ht he
  refine ⟨_, ps_setLc hc hN hy hyl hsw pi ok pg pt pe hs, fun G σ H F ρ Dn S hgd => q G σ H F ρ _ S (GoodS.bind hgd fun ds ρ1 H1 F1 S1 s1 g1 a vs H2 S2 r => ?_)⟩
  split at g1
  · exact g1.elim
  · rename_i hh
    obtain ⟨e1, e2, _, _⟩ := S2.xt (a, .lst vs) (List.mem_cons_self ..)
    exact g1 _ H2 F1 (S2.xtSlot (by simpa using hh) ⟨a, vs, rfl, e1, e2, r⟩ rfl) Sm.refl
end
end Mr
namespace Mr
open PySem PySem.Spec PyProof.Rows L2

def xNever : M Fl := fun _ => .stuck
def xBk : M Fl := fun ρ => .ok .bk ρ
def xCt : M Fl := fun ρ => .ok .ct ρ
/-- i, j = .. -/
def xPar (i j : Nat) (fs : M (List D)) : M Fl := fun ρ => (fs ρ).bind fun ds ρ => match ds with
  | [d, e] => (putT (.sl i) d ρ).bind fun _ ρ => (putT (.sl j) e ρ).bind fun _ ρ => .ok .nx ρ
  | _ => .stuck
section
variable {X : Cx} {W : WX} {st : Stmt} {pos : Pos}
theorem AE.ty {T : String} {x : Str} (hg : Gl X x) (hm : X.mg x = none) (hv : bootBuiltins x = some (.type T)) (hn : x ≠ "__name__" := by decide) (hd : (x == ("__debug__" : Str)) = false := by decide) : AE X W (.Name x pos) (mC (.opq (.ty T))) :=
  .cst (v := .ty T) (pe_bltn hg hm hv rfl hn hd) fun _ _ => .opq _
theorem AS.never : AS X W st xNever := ⟨_, ps_never, fun G σ H F ρ Dn S hg => hg.elim⟩
theorem AS.bk : AS X W (.Break pos) xBk := AS.brk
theorem AS.ct : AS X W (.Continue pos) xCt := AS.cont
theorem AS.par {i j : Nat} {x y : Str} {a b : Expr} {fs : M (List D)} {px py pt : Pos} {kt k2 pt2} (hc : X.calm = true) (hN : X.N.Nodup) (hi : X.N[i]? = some x) (hj : X.N[j]? = some y) (hij : i ≠ j)
    (hx : X.env.scope.names.lookup x = some .local) (hy : X.env.scope.names.lookup y = some .local) (ha : AA X W [a, b] fs)
    (hw : swappedStores [.Tuple [.Name x px, .Name y py] kt pt] (.Tuple [a, b] k2 pt2) X.env = pure (some [x, y]) := by rfl)
    (hs : swapsWithSole [.Tuple [.Name x px, .Name y py] kt pt] (.Tuple [a, b] k2 pt2) pos.line X.env = pure false := by rfl) :
    AS X W (.Assign [.Tuple [.Name x px, .Name y py] kt pt] (.Tuple [a, b] k2 pt2) pos) (xPar i j fs) := by
  obtain ⟨t, p, q⟩ := ha
  refine ⟨_, ps_par hc hN hi hj hij hx hy p hw hs, fun G σ H F ρ Dn S hg => q G σ H F ρ _ S (GoodS.bind hg fun ds ρ1 H1 F1 S1 s1 g1 vs r1 => ?_)⟩
  split at g1
  · obtain ⟨v, u, rfl, rv, ru⟩ := reps2 r1
    refine ⟨v, u, rfl, ?_⟩
    unfold putT at g1
    split at g1
    · exact g1.elim
    · rename_i h1
      have g1 : GoodS X.K G W F1 ((if ((ρ1.set i (.val _)).getD j .un).isIo = true then R.stuck else .ok () ((ρ1.set i (.val _)).set j (.val _))).bind fun _ ρ => .ok .nx ρ) Dn := g1
      split at g1
      · exact g1.elim
      · rename_i h2
        have S2 := S1.setVal (i := i) (by simpa using h1) rv
        exact g1 _ H1 F1 (S2.setVal (by simpa using h2) ru) Sm.refl
  · exact g1.elim
/-- f(..), the last parameters by their defaults -/
theorem AE.callD {k n : Nat} {f : Addr} {fd : FuncData} {ps : List Str} {dvs : List V} {dd : List D} {x : Str} {p pos : Pos} {e : Expr} {es : List Expr} {fs : M (List D)} {m : List D → FR D}
    (Fn : FnOk X.prog X.w X.K X.mg X.base (L2.CX X.prog X.w) k f fd ps (PSp X.K n m)) (hr : Room k X.A) (hg : Gl X x) (hm : X.mg x = some (.ref f)) (hk : PySem.W.keepIn X.K (.ref f) = true) (hb : ∃ dV, Vals dvs dV ∧ Binds X.K fd ps dV) (hdd : ∀ K H, Reps K H dvs dd) (tk : Takes X W)
    (ha : AA X W (e :: es) fs) (hdb : (x == ("__debug__" : Str)) = false := by decide) (he : starEach (e :: es) X.env = (false, eval e X.env) :: starEach es X.env := by rfl) (hpl : (backTo pos (starEach es X.env)).any (·.1) = false := by rfl) :
    AE X W (.Call (.Name x p) (e :: es) [] pos) (mCall m n dd fs) := by
  obtain ⟨dV, h1, h2⟩ := hb
  exact AE.call Fn hr hg hm hk h2 h1 hdd tk ha hdb he hpl
end
end Mr
namespace Mr
open PySem PySem.Spec PyProof.Rows L2
/-- a law's end: the function that its def computes answers true at every script -/
theorem walk_end {l : PySem.W.OpenLaw} {n k : Nat} {q : Program} {loose : List Str} {XP : (Str → Option Value) → Heap → Prop} {fas : List He.Fa} {fns : List He.DefD} {d : DefRec} {x : Str} {m : List D → FR D}
    (hn : l.most = some n) (hn2 : n ≤ sizeLine) (hdf : d.params.defaults = []) (hr : Room k callerA)
    (F : ∀ (w : World) (K : PySem.W.Frag) (mg : Str → Option Value) (h : Heap) (fa : Addr), K.In h → h.Ns mainGlobals mg → He.SaysD fas fns K → mg d.name = some (.ref fa) →
      ∃ fd : FuncData, (∀ (s : Shared) (u : Value), BindsTo s fd ⟨[u], []⟩ [(x, u)]) ∧ ∀ base : Heap, FnOk l.prog w K mg base (L2.CX l.prog w) k fa fd [x] (PSp K 1 m))
    (hm : ∀ ns : List Int, ns.length ≤ n → (∀ z ∈ ns, Builtin.Int.intBits z ≤ 1048576) → m [.frz (ns.map .int)] = .ok (.bl true)) :
    PySem.W.WalkO q loose XP (He.hookD 4 fas fns).says l.row.toRowW d [] (fun f vs => PySem.call f vs) := by
  refine Att.attach_callB hn hdf fun w s₀ s₁ mg mb fa o pm cd doc a vs ns G Y ho hd hcd hmg hobj hints hlen hbits hg => ?_
  obtain ⟨K, KX, c⟩ := Y
  obtain ⟨fd, hb, hF⟩ := F w K mg _ fa KX G.T.g c hmg
  refine law_call KX G.T.g G.T.b G.T.builtins G.T.nolimit hg hobj hints (Nat.le_trans hlen hn2) hr (fun base _ _ => hF base) hb (fun H hO hS => ?_) fun H e s' hc => ?_
  · refine ⟨rfl, H, [.frz (ns.map .int)], Sm.refl, .cons (.frz hS (Reps.of_ints ns)) .nil, ?_⟩
    rw [hm ns hlen hbits]
    intro v H' F' _ r
    cases r
    rfl
  · obtain ⟨_, _, _, _, _, _, _, _, _, _, _, _, h⟩ := hc
    exact h
end Mr
namespace Mr
open PySem PySem.Spec PyProof.Rows L2
/-! ### sizes of ints -/
/-- of at most n bits -/
def Sz (n : Nat) (i : Int) : Prop := i.natAbs < 2 ^ n
section
variable {a b n k : Nat} {i j : Int}
theorem Sz.mono (h : Sz a i) (l : a ≤ b) : Sz b i := Nat.lt_of_lt_of_le h (Nat.pow_le_pow_right (by decide) l)
theorem Sz.neg (h : Sz a i) : Sz a (-i) := by unfold Sz at *; rw [Int.natAbs_neg]; exact h
theorem Sz.add (h : Sz a i) (h' : Sz b j) : Sz (max a b + 1) (i + j) := by
  have h1 := h.mono (Nat.le_max_left a b)
  have h2 := h'.mono (Nat.le_max_right a b)
  unfold Sz at *
  rw [Nat.pow_succ]
  have := Int.natAbs_add_le i j
  omega
theorem Sz.sub (h : Sz a i) (h' : Sz b j) : Sz (max a b + 1) (i - j) := by
  rw [Int.sub_eq_add_neg]; exact h.add h'.neg
theorem Sz.mul (h : Sz a i) (h' : Sz b j) : Sz (a + b) (i * j) := by
  unfold Sz at *
  rw [Int.natAbs_mul, Nat.pow_add]
  exact Nat.mul_lt_mul'' h h'
theorem Sz.bits (h : Sz a i) : Builtin.Int.intBits i ≤ a := PyProof.Rows.intBits_le h
theorem Sz.mulOk (h : Sz a i) (h' : Sz b j) (l : a + b ≤ 134217728) : mulOk i j := by
  have h1 := h.bits
  have h2 := h'.bits
  unfold Mr.mulOk
  omega
theorem Sz.lt (h : Sz a i) : i < ((2 ^ a : Nat) : Int) := by unfold Sz at h; omega
theorem Sz.gt (h : Sz a i) : -((2 ^ a : Nat) : Int) < i := by unfold Sz at h; omega
theorem Sz.of (h : -((2 ^ a : Nat) : Int) < i) (h' : i < ((2 ^ a : Nat) : Int)) : Sz a i := by unfold Sz; omega
theorem Sz.of_nat (h : 0 ≤ i) (h' : i < ((2 ^ a : Nat) : Int)) : Sz a i := by unfold Sz; omega
theorem Sz.of_abs (h : Sz a i) (h' : j.natAbs ≤ i.natAbs) : Sz a j := Nat.lt_of_le_of_lt h' h
theorem Sz.zero : Sz a 0 := by unfold Sz; exact Nat.two_pow_pos a
theorem Sz.one : Sz 1 1 := by unfold Sz; decide
theorem Sz.fmod (h : Sz b j) (hj : 0 < j) : Sz b (i.fmod j) := by
  have h1 := Int.fmod_nonneg_of_pos i hj
  have h2 := Int.fmod_lt_of_pos i hj
  unfold Sz at *
  omega
theorem Sz.divOk (h : Sz b j) (hj : j ≠ 0) (l : b ≤ 9000 := by decide) : divOk i j := by
  refine ⟨hj, ?_⟩
  unfold Builtin.divisionGoesByPylong
  have hl : j.natAbs.log2 < 9000 := by
    have h1 : j.natAbs ≠ 0 := by omega
    have := (Nat.log2_lt h1).mpr (Nat.lt_of_lt_of_le h (Nat.pow_le_pow_right (by decide) l))
    exact this
  have : ¬ ((j.natAbs.log2 / 30 + 1) > 300) := by omega
  simp only [Bool.and_eq_false_iff, decide_eq_false_iff_not]
  left
  split <;> omega
theorem Sz.sum : ∀ {xs : List Int} {k : Nat}, (∀ x ∈ xs, Sz a x) → xs.length ≤ 2 ^ k → Sz (a + k) xs.sum := by
  intro xs k h hl
  have main : ∀ ys : List Int, (∀ x ∈ ys, Sz a x) → ys.sum.natAbs ≤ ys.length * 2 ^ a := by
    intro ys
    induction ys with
    | nil => intro _; simp
    | cons y ys ih =>
      intro h
      have h1 := ih fun x hx => h x (List.mem_cons_of_mem _ hx)
      have h2 : y.natAbs < 2 ^ a := h y (List.mem_cons_self ..)
      rw [List.sum_cons, List.length_cons, Nat.succ_mul]
      have := Int.natAbs_add_le y ys.sum
      omega
  unfold Sz
  by_cases e : xs = []
  · subst e; simp [Nat.two_pow_pos]
  have h1 := main xs h
  have strict : xs.sum.natAbs < xs.length * 2 ^ a := by
    cases xs with
    | nil => exact absurd rfl e
    | cons y ys =>
      have h1 := main ys fun x hx => h x (List.mem_cons_of_mem _ hx)
      have h2 : y.natAbs < 2 ^ a := h y (List.mem_cons_self ..)
      rw [List.sum_cons, List.length_cons, Nat.succ_mul]
      have := Int.natAbs_add_le y ys.sum
      omega
  rw [Nat.pow_add, Nat.mul_comm (2 ^ a)]
  exact Nat.lt_of_lt_of_le strict (Nat.mul_le_mul_right _ hl)
theorem Sz.abs (h : Sz a i) : Sz a (if i < 0 then -i else i) := by
  split
  · exact h.neg
  · exact h
end

/-! ### evaluation -/
section
variable {α β : Type}
theorem R.bind_congr {r r' : R α} (k : α → Ro → R β) (h : r = r') : r.bind k = r'.bind k := by rw [h]
@[simp] theorem R.bind_ok (a : α) (ρ : Ro) (k : α → Ro → R β) : (R.ok a ρ).bind k = k a ρ := id rfl
@[simp] theorem R.bind_exc (a : Ex) (ρ : Ro) (k : α → Ro → R β) : (R.exc a ρ).bind k = .exc a ρ := id rfl
@[simp] theorem R.bind_stuck (k : α → Ro → R β) : (R.stuck).bind k = .stuck := id rfl
@[simp] theorem FR.lift_ok (a : α) (ρ : Ro) : (FR.ok a).lift ρ = .ok a ρ := id rfl
@[simp] theorem FR.lift_exc (a : Ex) (ρ : Ro) : (FR.exc a : FR α).lift ρ = .exc a ρ := id rfl
@[simp] theorem FR.lift_stuck (ρ : Ro) : (FR.stuck : FR α).lift ρ = .stuck := id rfl
@[simp] theorem R.nox_ok (a : α) (ρ : Ro) : (R.ok a ρ).nox = .ok a ρ := id rfl
end
section
variable {ρ : Ro} {a b c : M D} {g h : D → D → FR D} {u : D → FR D} {l : List D → FR D} {as : M (List D)} {t t' : M Bool} {d e : D} {i j : Nat}
@[simp] theorem ap_C : mC d ρ = .ok d ρ := id rfl
theorem ap_Var (h : ρ.getD i .un = .val d) : mVar i ρ = .ok d ρ := by unfold mVar; rw [h]
@[simp] theorem ap_Var0 {s : List SV} : mVar 0 (.val d :: s) = .ok d (.val d :: s) := id rfl
@[simp] theorem ap_Var1 {s0 : SV} {s : List SV} : mVar 1 (s0 :: .val d :: s) = .ok d (s0 :: .val d :: s) := id rfl
@[simp] theorem ap_Var2 {s0 s1 : SV} {s : List SV} : mVar 2 (s0 :: s1 :: .val d :: s) = .ok d (s0 :: s1 :: .val d :: s) := id rfl
@[simp] theorem ap_Var3 {s0 s1 s2 : SV} {s : List SV} : mVar 3 (s0 :: s1 :: s2 :: .val d :: s) = .ok d (s0 :: s1 :: s2 :: .val d :: s) := id rfl
@[simp] theorem ap_Var4 {s0 s1 s2 s3 : SV} {s : List SV} : mVar 4 (s0 :: s1 :: s2 :: s3 :: .val d :: s) = .ok d (s0 :: s1 :: s2 :: s3 :: .val d :: s) := id rfl
@[simp] theorem ap_Var5 {s0 s1 s2 s3 s4 : SV} {s : List SV} : mVar 5 (s0 :: s1 :: s2 :: s3 :: s4 :: .val d :: s) = .ok d (s0 :: s1 :: s2 :: s3 :: s4 :: .val d :: s) := id rfl
@[simp] theorem ap_Var6 {s0 s1 s2 s3 s4 s5 : SV} {s : List SV} : mVar 6 (s0 :: s1 :: s2 :: s3 :: s4 :: s5 :: .val d :: s) = .ok d (s0 :: s1 :: s2 :: s3 :: s4 :: s5 :: .val d :: s) := id rfl
@[simp] theorem ap_Var7 {s0 s1 s2 s3 s4 s5 s6 : SV} {s : List SV} : mVar 7 (s0 :: s1 :: s2 :: s3 :: s4 :: s5 :: s6 :: .val d :: s) = .ok d (s0 :: s1 :: s2 :: s3 :: s4 :: s5 :: s6 :: .val d :: s) := id rfl
@[simp] theorem ap_Var8 {s0 s1 s2 s3 s4 s5 s6 s7 : SV} {s : List SV} : mVar 8 (s0 :: s1 :: s2 :: s3 :: s4 :: s5 :: s6 :: s7 :: .val d :: s) = .ok d (s0 :: s1 :: s2 :: s3 :: s4 :: s5 :: s6 :: s7 :: .val d :: s) := id rfl
@[simp] theorem ap_Var9 {s0 s1 s2 s3 s4 s5 s6 s7 s8 : SV} {s : List SV} : mVar 9 (s0 :: s1 :: s2 :: s3 :: s4 :: s5 :: s6 :: s7 :: s8 :: .val d :: s) = .ok d (s0 :: s1 :: s2 :: s3 :: s4 :: s5 :: s6 :: s7 :: s8 :: .val d :: s) := id rfl
@[simp] theorem ap_Var10 {s0 s1 s2 s3 s4 s5 s6 s7 s8 s9 : SV} {s : List SV} : mVar 10 (s0 :: s1 :: s2 :: s3 :: s4 :: s5 :: s6 :: s7 :: s8 :: s9 :: .val d :: s) = .ok d (s0 :: s1 :: s2 :: s3 :: s4 :: s5 :: s6 :: s7 :: s8 :: s9 :: .val d :: s) := id rfl
@[simp] theorem ap_Var11 {s0 s1 s2 s3 s4 s5 s6 s7 s8 s9 s10 : SV} {s : List SV} : mVar 11 (s0 :: s1 :: s2 :: s3 :: s4 :: s5 :: s6 :: s7 :: s8 :: s9 :: s10 :: .val d :: s) = .ok d (s0 :: s1 :: s2 :: s3 :: s4 :: s5 :: s6 :: s7 :: s8 :: s9 :: s10 :: .val d :: s) := id rfl
@[simp] theorem ap_2 : m2 g a b ρ = (a ρ).bind fun x ρ => (b ρ).bind fun y ρ => (g x y).lift ρ := id rfl
@[simp] theorem ap_1 : m1 u a ρ = (a ρ).bind fun x ρ => (u x).lift ρ := id rfl
@[simp] theorem ap_L : mL l as ρ = (as ρ).bind fun xs ρ => (l xs).lift ρ := id rfl
@[simp] theorem ap_Nil : mNil ρ = .ok [] ρ := id rfl
@[simp] theorem ap_Cons : mCons a as ρ = (a ρ).bind fun x ρ => (as ρ).bind fun xs ρ => .ok (x :: xs) ρ := id rfl
@[simp] theorem ap_If : mIf t a b ρ = (t ρ).bind fun c ρ => bif c then a ρ else b ρ := by
  unfold mIf; congr; funext c ρ; cases c <;> rfl
@[simp] theorem ap_And : mAnd a b ρ = (a ρ).bind fun x ρ => match x with
  | .bl c => bif c then b ρ else .ok (.bl false) ρ
  | _ => .stuck := by
  unfold mAnd; congr; funext x ρ
  cases x with
  | bl c => cases c <;> rfl
  | _ => rfl
@[simp] theorem ap_Or : mOr a b ρ = (a ρ).bind fun x ρ => match x with
  | .bl c => bif c then .ok (.bl true) ρ else b ρ
  | _ => .stuck := by
  unfold mOr; congr; funext x ρ
  cases x with
  | bl c => cases c <;> rfl
  | _ => rfl
@[simp] theorem ap_Chain : mChain g h a b c ρ = (a ρ).bind fun x ρ => (b ρ).bind fun y ρ => ((g x y).lift ρ).bind fun z ρ => match z with
  | .bl k => bif k then (c ρ).bind fun w ρ => (h y w).lift ρ else .ok (.bl false) ρ
  | _ => .stuck := by
  unfold mChain; congr; funext x ρ; congr; funext y ρ; congr; funext z ρ
  cases z with
  | bl c => cases c <;> rfl
  | _ => rfl
@[simp] theorem ap_tOf : tOf a ρ = (a ρ).bind fun x ρ => match x with
  | .bl b => .ok b ρ
  | _ => .stuck := id rfl
@[simp] theorem ap_tNot : tNot t ρ = (t ρ).bind fun b ρ => .ok (!b) ρ := id rfl
@[simp] theorem ap_tAnd : tAnd t t' ρ = (t ρ).bind fun c ρ => bif c then t' ρ else .ok false ρ := by
  unfold tAnd; congr; funext c ρ; cases c <;> rfl
@[simp] theorem ap_tOr : tOr t t' ρ = (t ρ).bind fun c ρ => bif c then .ok true ρ else t' ρ := by
  unfold tOr; congr; funext c ρ; cases c <;> rfl
@[simp] theorem ap_tYes : tYesM ρ = .ok true ρ := id rfl
variable {x y : M Fl} {tg : Tg} {it : M (List D)}
@[simp] theorem ap_Nx : xNx ρ = .ok .nx ρ := id rfl
@[simp] theorem ap_Never : xNever ρ = .stuck := id rfl
@[simp] theorem ap_Bk : xBk ρ = .ok .bk ρ := id rfl
@[simp] theorem ap_Ct : xCt ρ = .ok .ct ρ := id rfl
@[simp] theorem ap_Seq : xSeq x y ρ = (x ρ).bind fun f ρ => match f with
  | .nx => y ρ
  | f => .ok f ρ := id rfl
@[simp] theorem ap_Ret : xRet a ρ = (a ρ).bind fun d ρ => .ok (.rt d) ρ := id rfl
@[simp] theorem ap_RetN : xRetN as ρ = (as ρ).bind fun d ρ => .ok (.rn d) ρ := id rfl
@[simp] theorem ap_xIf : xIf t x y ρ = (t ρ).bind fun c ρ => bif c then x ρ else y ρ := by
  unfold xIf; congr; funext c ρ; cases c <;> rfl
@[simp] theorem ap_Drop : xDrop a ρ = (a ρ).bind fun _ ρ => .ok .nx ρ := id rfl
@[simp] theorem ap_Put : xPut tg a ρ = (a ρ).bind fun d ρ => (putT tg d ρ).bind fun _ ρ => .ok .nx ρ := id rfl
@[simp] theorem ap_putS : putT (.sl i) d ρ = if (ρ.getD i .un).isIo = true then .stuck else .ok () (ρ.set i (.val d)) := by unfold putT; rfl
@[simp] theorem ap_putT {ts : List Tg} {xs : List D} : putT (.tp ts) (.tup xs) ρ = if xs.length = lenT ts then putTs ts xs ρ else .stuck := by rw [putT]
@[simp] theorem ap_putNil : putTs [] [] ρ = .ok () ρ := by unfold putTs; rfl
@[simp] theorem ap_putCons {t : Tg} {ts : List Tg} {xs : List D} : putTs (t :: ts) (d :: xs) ρ = (putT t d ρ).bind fun _ ρ => putTs ts xs ρ := by rw [putTs]
@[simp] theorem lenT_nil : lenT [] = 0 := by unfold lenT; rfl
@[simp] theorem lenT_cons {t : Tg} {ts : List Tg} : lenT (t :: ts) = lenT ts + 1 := by rw [lenT]
@[simp] theorem isIo_un : SV.un.isIo = false := id rfl
@[simp] theorem isIo_val : (SV.val d).isIo = false := id rfl
@[simp] theorem isIo_own {p : Bool} {xs : List D} : (SV.own p xs).isIo = p := id rfl
@[simp] theorem isOwn_un : SV.un.isOwn = false := id rfl
@[simp] theorem isOwn_val : (SV.val d).isOwn = false := id rfl
@[simp] theorem isOwn_own {p : Bool} {xs : List D} : (SV.own p xs).isOwn = true := id rfl
@[simp] theorem flag_own {p q : Bool} {xs : List D} : (SV.own p xs).flag q = .own q xs := id rfl
@[simp] theorem ap_Call {m : List D → FR D} {n : Nat} {dd : List D} : mCall m n dd as ρ = (as ρ).bind fun ds ρ => (if ds.length + dd.length = n then m (ds ++ dd) else .stuck).lift ρ := id rfl
@[simp] theorem ap_CallN {m : List D → FR (List D)} {n : Nat} : mCallN m n as ρ = (as ρ).bind fun ds ρ => (if ds.length = n then m ds else .stuck).lift ρ := id rfl
@[simp] theorem ap_OfN : mOfN as ρ = (as ρ).bind fun ds ρ => .ok (.lst ds) ρ := id rfl
@[simp] theorem ap_LstN : mLstN as ρ = (as ρ).bind fun ds ρ => if ds.length ≤ sizeLine then .ok ds ρ else .stuck := id rfl
@[simp] theorem ap_xOwn : xOwn i as ρ = (as ρ).bind fun ds ρ => if (ρ.getD i .un).isIo = true then .stuck else .ok .nx (ρ.set i (.own false ds)) := id rfl
@[simp] theorem ap_IxN0 {p : Bool} {xs : List D} {s : List SV} : mIxN 0 a (.own p xs :: s) = (a (.own p xs :: s)).bind fun i ρ => match ρ.getD 0 .un, i with
    | .own _ xs, .int k => match atI xs k with
      | some d => .ok d ρ
      | none => .stuck
    | _, _ => .stuck := id rfl
@[simp] theorem ap_SetIx0 : xSetIx 0 a b ρ = (a ρ).bind fun v ρ => match ρ.getD 0 .un with
  | .own _ _ => (b ρ).bind fun i ρ => match ρ.getD 0 .un, i with
    | .own p xs, .int k => match ixN xs.length k with
      | some n => .ok .nx (ρ.set 0 (.own p (xs.set n v)))
      | none => .stuck
    | _, _ => .stuck
  | _ => .stuck := id rfl
@[simp] theorem ap_Io {mi : SV → List D → IR} {n : Nat} (ho : (ρ.getD j .un).isOwn = true) : mIo mi n j as ρ = (as ρ).bind fun ds ρ =>
    if ds.length = n ∧ (ρ.getD j .un).isOwn = true then match mi ((ρ.getD j .un).flag true) ds with
      | .ok d sv => .ok d (ρ.set j (sv.flag (ρ.getD j .un).isIo))
      | .exc x sv => .exc x (ρ.set j (sv.flag (ρ.getD j .un).isIo))
      | .stuck => .stuck
    else .stuck := by unfold mIo; exact if_pos ho
@[simp] theorem ap_For : xFor it tg x ρ = (it ρ).bind fun ds ρ => forM tg x ds ρ := id rfl
@[simp] theorem ap_Walk : mWalk a ρ = (a ρ).bind fun x ρ => (walkD x).lift ρ := id rfl
@[simp] theorem ap_ItL {q : List D → FR (List D)} : mItL q as ρ = (as ρ).bind fun xs ρ => (q xs).lift ρ := id rfl
@[simp] theorem ap_Lc {vs : List Nat} : mLc it vs tg t a ρ = (it ρ).bind fun ds ρ => (lcM vs tg t a ds [] ρ).nox := id rfl
@[simp] theorem ap_Par {fs : M (List D)} : xPar i j fs ρ = (fs ρ).bind fun ds ρ => match ds with
  | [d, e] => (putT (.sl i) d ρ).bind fun _ ρ => (putT (.sl j) e ρ).bind fun _ ρ => .ok .nx ρ
  | _ => .stuck := id rfl
end
/-! ### operations -/
section
variable {i j : Int} {x y d e : D} {xs ys : List D} {n m : Nat}
@[simp] theorem op_addI : addD (.int i) (.int j) = .ok (.int (i + j)) := id rfl
@[simp] theorem op_subI : subD (.int i) (.int j) = .ok (.int (i - j)) := id rfl
theorem op_mulI (h : mulOk i j) : mulD (.int i) (.int j) = .ok (.int (i * j)) := if_pos h
theorem op_divI (h : divOk i j) : divD (.int i) (.int j) = .ok (.int (i.fdiv j)) := if_pos h
theorem op_modI (h : j ≠ 0) : modD (.int i) (.int j) = .ok (.int (i.fmod j)) := if_pos h
@[simp] theorem op_negI : negD (.int i) = .ok (.int (-i)) := id rfl
@[simp] theorem op_ltI : ltD (.int i) (.int j) = .ok (.bl (decide (i < j))) := id rfl
@[simp] theorem op_leI : leD (.int i) (.int j) = .ok (.bl (decide (i ≤ j))) := id rfl
@[simp] theorem op_gtI : gtD (.int i) (.int j) = .ok (.bl (decide (j < i))) := id rfl
@[simp] theorem op_geI : geD (.int i) (.int j) = .ok (.bl (decide (j ≤ i))) := id rfl
@[simp] theorem op_notB {b : Bool} : notD (.bl b) = .ok (.bl (!b)) := id rfl
@[simp] theorem op_eqII : eqD (.int i) (.int j) = .ok (.bl (decide (i = j))) := by
  unfold eqD eqv; simp [okD, py, PyData.eqv]; rfl
@[simp] theorem op_neII : neD (.int i) (.int j) = .ok (.bl (!decide (i = j))) := by
  unfold neD eqv; simp [okD, py, PyData.eqv]; rfl
theorem eqv_self (h : okD n x = true) : eqv x x = true := PySem.SeqAt.eqv_refl_plain _ (okD_py n x h).1
theorem op_eqS (h : okD 12 x = true) : eqD x x = .ok (.bl true) := by
  unfold eqD; rw [if_pos ⟨h, h⟩, eqv_self h]
theorem op_neS (h : okD 12 x = true) : neD x x = .ok (.bl false) := by
  unfold neD; rw [if_pos ⟨h, h⟩, eqv_self h]; rfl
@[simp] theorem okD_int : okD n (.int i) = true := by unfold okD; rfl
@[simp] theorem okD_str {z : Str} : okD n (.str z) = true := by unfold okD; rfl
@[simp] theorem okD_bl {b : Bool} : okD n (.bl b) = true := by unfold okD; rfl
@[simp] theorem okD_non : okD n .non = true := by unfold okD; rfl
@[simp] theorem okDs_nil : okDs n [] = true := by unfold okDs; rfl
@[simp] theorem okDs_cons : okDs n (x :: xs) = (okD n x && okDs n xs) := by rw [okDs]
@[simp] theorem okD_tup : okD (n + 1) (.tup xs) = okDs n xs := by rw [okD]
@[simp] theorem okD_lst : okD (n + 1) (.lst xs) = okDs n xs := by rw [okD]
@[simp] theorem okDs_ints : ∀ {ns : List Int}, okDs n (ns.map .int) = true
  | [] => by simp
  | a :: r => by simp [okDs_ints (ns := r)]
theorem okDs_all : ∀ {l : List D}, (∀ z ∈ l, okD n z = true) → okDs n l = true
  | [], _ => by simp
  | a :: r, h => by simp [h a (List.mem_cons_self ..), okDs_all (l := r) fun z hz => h z (List.mem_cons_of_mem _ hz)]
@[simp] theorem op_lenT : lenD [.tup xs] = .ok (.int xs.length) := id rfl
@[simp] theorem op_lenL : lenD [.lst xs] = .ok (.int xs.length) := id rfl
@[simp] theorem op_lenF : lenD [.frz xs] = .ok (.int xs.length) := id rfl
@[simp] theorem op_sum {ns : List Int} : sumD [.lst (ns.map .int)] = .ok (.int ns.sum) := by unfold sumD; simp only [intsD_map]
@[simp] theorem op_all {bs : List Bool} : allD [.lst (bs.map .bl)] = .ok (.bl (bs.all id)) := by unfold allD; simp only [blsD_map]
@[simp] theorem op_any {bs : List Bool} : anyD [.lst (bs.map .bl)] = .ok (.bl (bs.any id)) := by unfold anyD; simp only [blsD_map]
@[simp] theorem op_tupleL : tupleD [.lst xs] = .ok (.tup xs) := id rfl
@[simp] theorem op_tupleT : tupleD [.tup xs] = .ok (.tup xs) := id rfl
@[simp] theorem op_listL : listD [.lst xs] = .ok (.lst xs) := id rfl
@[simp] theorem op_listT : listD [.tup xs] = .ok (.lst xs) := id rfl
@[simp] theorem op_intI : intD [.int i] = .ok (.int i) := id rfl
@[simp] theorem op_intB {b : Bool} : intD [.bl b] = .ok (.int (if b then 1 else 0)) := id rfl
@[simp] theorem op_absI : absD [.int i] = .ok (.int (if i < 0 then -i else i)) := id rfl
@[simp] theorem op_max : max2D [.int i, .int j] = .ok (.int (if j > i then j else i)) := id rfl
@[simp] theorem op_min : min2D [.int i, .int j] = .ok (.int (if j < i then j else i)) := id rfl
@[simp] theorem op_isiII : isiD [.int i, .opq (.ty "int")] = .ok (.bl true) := id rfl
@[simp] theorem op_isiIB : isiD [.int i, .opq (.ty "bool")] = .ok (.bl false) := id rfl
@[simp] theorem op_isiTT : isiD [.tup xs, .opq (.ty "tuple")] = .ok (.bl true) := id rfl
@[simp] theorem op_isnt1 : isntD .non .non = .ok (.bl false) := id rfl
@[simp] theorem op_isnt2 : isntD (.int i) .non = .ok (.bl true) := id rfl
@[simp] theorem op_is1 : isD .non .non = .ok (.bl true) := id rfl
@[simp] theorem op_is2 : isD (.int i) .non = .ok (.bl false) := id rfl
@[simp] theorem op_is3 : isD (.tup xs) .non = .ok (.bl false) := id rfl
@[simp] theorem op_isnt3 : isntD (.tup xs) .non = .ok (.bl true) := id rfl
theorem atI_nat {α : Type} {l : List α} {k : Nat} : atI l (k : Int) = l[k]? := by
  unfold atI ixN
  rw [if_pos (by omega : 0 ≤ (k : Int))]
  by_cases h : k < l.length
  · rw [if_pos (by omega)]; simp
  · rw [if_neg (by omega)]; simp; omega
theorem ixD_tup {k : Nat} (h : xs[k]? = some d) : ixD (.tup xs) (.int k) = .ok d := by
  unfold ixD; simp only [atI_nat, h]
theorem ixD_lst {k : Nat} (h : xs[k]? = some d) : ixD (.lst xs) (.int k) = .ok d := by
  unfold ixD; simp only [atI_nat, h]
theorem ixD_frz {k : Nat} (h : xs[k]? = some d) : ixD (.frz xs) (.int k) = .ok d := by
  unfold ixD; simp only [atI_nat, h]
@[simp] theorem ix_l0 : ixD (.lst (x :: xs)) (.int 0) = .ok x := ixD_lst (k := 0) rfl
@[simp] theorem ix_l1 : ixD (.lst (x :: y :: xs)) (.int 1) = .ok y := ixD_lst (k := 1) rfl
@[simp] theorem ix_l2 : ixD (.lst (x :: y :: d :: xs)) (.int 2) = .ok d := ixD_lst (k := 2) rfl
@[simp] theorem ix_t0 : ixD (.tup (x :: xs)) (.int 0) = .ok x := ixD_tup (k := 0) rfl
@[simp] theorem ix_t1 : ixD (.tup (x :: y :: xs)) (.int 1) = .ok y := ixD_tup (k := 1) rfl
@[simp] theorem ix_t2 : ixD (.tup (x :: y :: d :: xs)) (.int 2) = .ok d := ixD_tup (k := 2) rfl
theorem tupD_of (h : xs.length ≤ sizeLine) : tupD xs = .ok (.tup xs) := if_pos h
theorem lstD_of (h : xs.length ≤ sizeLine) : lstD xs = .ok (.lst xs) := if_pos h
@[simp] theorem walk_lst : walkD (.lst xs) = .ok xs := id rfl
@[simp] theorem walk_frz : walkD (.frz xs) = .ok xs := id rfl
@[simp] theorem walk_tup : walkD (.tup xs) = .ok xs := id rfl
@[simp] theorem zip_tt : zipD [.tup xs, .tup ys] = .ok (xs.zipWith (fun x y => .tup [x, y]) ys) := id rfl
@[simp] theorem zip_ll : zipD [.lst xs, .lst ys] = .ok (xs.zipWith (fun x y => .tup [x, y]) ys) := id rfl
theorem range1_of (h : 0 ≤ i) (h' : i ≤ 1000000000) : range1D [.int i] = .ok ((List.range i.toNat).map fun (k : Nat) => .int k) := by
  have e : range1D [.int i] = if -(2 ^ 62) ≤ i ∧ i < 2 ^ 62 then .ok (rangeD 0 i) else .stuck := id rfl
  rw [e, if_pos ⟨by omega, by omega⟩]
  unfold rangeD
  simp
end
/-! ### comprehensions, loops -/
section
variable {ρ : Ro} {t : Tg} {el : M D} {i j : Nat}
/-- no test, the turn leaves the slots as they were -/
theorem lcM_run {vs : List Nat} {ρ : Ro} (hp : plainR ρ vs = true) : ∀ (ds : List D) (F : D → D) (acc : List D), ds.length + acc.length ≤ sizeLine →
    (∀ d ∈ ds, ∃ ρ1 ρ3, putT t d (wipeR ρ vs) = .ok () ρ1 ∧ el ρ1 = .ok (F d) ρ3 ∧ freeR ρ3 vs = true ∧ backR ρ ρ3 vs = ρ) → lcM vs t tYesM el ds acc ρ = .ok (acc ++ ds.map F) ρ
  | [], F, acc, _, _ => by simp [lcM]
  | d :: ds, F, acc, hl, h => by
    obtain ⟨ρ1, ρ3, e1, e2, e3, e4⟩ := h d (List.mem_cons_self ..)
    rw [List.length_cons] at hl
    rw [lcM, if_pos hp, e1, R.bind_ok, ap_tYes, R.bind_ok, if_pos rfl, e2, R.bind_ok, if_pos ⟨by omega, e3⟩, e4]
    rw [lcM_run hp ds F (acc ++ [F d]) (by rw [List.length_append, List.length_singleton]; omega) fun z hz => h z (List.mem_cons_of_mem _ hz)]
    simp
/-- with a test -/
theorem lcM_runT {c : M Bool} {vs : List Nat} {ρ : Ro} (hp : plainR ρ vs = true) : ∀ (ds : List D) (C : D → Bool) (F : D → D) (acc : List D), ds.length + acc.length ≤ sizeLine →
    (∀ d ∈ ds, ∃ ρ1 ρ2, putT t d (wipeR ρ vs) = .ok () ρ1 ∧ c ρ1 = .ok (C d) ρ2 ∧ freeR ρ2 vs = true ∧ backR ρ ρ2 vs = ρ ∧ (C d = true → ∃ ρ3, el ρ2 = .ok (F d) ρ3 ∧ freeR ρ3 vs = true ∧ backR ρ ρ3 vs = ρ)) →
    lcM vs t c el ds acc ρ = .ok (acc ++ (ds.filter C).map F) ρ
  | [], C, F, acc, _, _ => by simp [lcM]
  | d :: ds, C, F, acc, hl, h => by
    obtain ⟨ρ1, ρ2, e1, e2, e3, e4, e5⟩ := h d (List.mem_cons_self ..)
    rw [List.length_cons] at hl
    rw [lcM, if_pos hp, e1, R.bind_ok, e2, R.bind_ok]
    cases hc : C d with
    | true =>
      obtain ⟨ρ3, f1, f2, f3⟩ := e5 hc
      rw [if_pos rfl, f1, R.bind_ok, if_pos ⟨by omega, f2⟩, f3]
      rw [lcM_runT hp ds C F (acc ++ [F d]) (by rw [List.length_append, List.length_singleton]; omega) fun z hz => h z (List.mem_cons_of_mem _ hz)]
      simp [hc]
    | false =>
      rw [if_neg (by simp), if_pos e3, e4]
      rw [lcM_runT hp ds C F acc (by omega) fun z hz => h z (List.mem_cons_of_mem _ hz)]
      simp [hc]
@[simp] theorem plainR_nil : plainR ρ [] = true := id rfl
@[simp] theorem plainR_cons {v : Nat} {vs : List Nat} : plainR ρ (v :: vs) = (!(ρ.getD v .un).isOwn && plainR ρ vs) := id rfl
@[simp] theorem freeR_nil : freeR ρ [] = true := id rfl
@[simp] theorem freeR_cons {v : Nat} {vs : List Nat} : freeR ρ (v :: vs) = (!(ρ.getD v .un).isIo && freeR ρ vs) := id rfl
@[simp] theorem wipeR_nil : wipeR ρ [] = ρ := id rfl
@[simp] theorem wipeR_cons {v : Nat} {vs : List Nat} : wipeR ρ (v :: vs) = (wipeR ρ vs).set v .un := id rfl
@[simp] theorem backR_nil {ρ0 : Ro} : backR ρ0 ρ [] = ρ := id rfl
@[simp] theorem backR_cons {ρ0 : Ro} {v : Nat} {vs : List Nat} : backR ρ0 ρ (v :: vs) = (backR ρ0 ρ vs).set v (ρ0.getD v .un) := id rfl
end
/-! ### the same, by turns -/
section
variable {t : Tg} {el : M D} {vs : List Nat}
/-- one turn of a comprehension -/
def turnM (vs : List Nat) (t : Tg) (el : M D) (ρ : Ro) (d : D) : R D := (putT t d (wipeR ρ vs)).bind fun _ ρ1 => (el ρ1).bind fun y ρ3 => bif freeR ρ3 vs then .ok y (backR ρ ρ3 vs) else .stuck
theorem turnM_ok {ρ ρ' : Ro} {d y : D} (h : turnM vs t el ρ d = .ok y ρ') : ∃ ρ1 ρ3, putT t d (wipeR ρ vs) = .ok () ρ1 ∧ el ρ1 = .ok y ρ3 ∧ freeR ρ3 vs = true ∧ backR ρ ρ3 vs = ρ' := by
  unfold turnM at h
  cases e : putT t d (wipeR ρ vs) with
  | ok u ρ1 =>
    rw [e, R.bind_ok] at h
    cases e2 : el ρ1 with
    | ok z ρ3 =>
      rw [e2, R.bind_ok] at h
      cases e3 : freeR ρ3 vs with
      | true => rw [e3] at h; cases h; exact ⟨_, _, rfl, e2, e3, rfl⟩
      | false => rw [e3] at h; cases h
    | exc x ρ3 => rw [e2] at h; cases h
    | stuck => rw [e2] at h; cases h
  | exc x ρ3 => rw [e] at h; cases h
  | stuck => rw [e] at h; cases h
theorem lcM_map {β : Type} {ρ : Ro} (g : β → D) (l : List β) (F : β → D) (hp : plainR ρ vs = true) (hl : l.length ≤ sizeLine) (h : ∀ x ∈ l, turnM vs t el ρ (g x) = .ok (F x) ρ) :
    lcM vs t tYesM el (l.map g) [] ρ = .ok (l.map F) ρ := by
  have main : ∀ (l : List β) (acc : List D), l.length + acc.length ≤ sizeLine → (∀ x ∈ l, turnM vs t el ρ (g x) = .ok (F x) ρ) → lcM vs t tYesM el (l.map g) acc ρ = .ok (acc ++ l.map F) ρ := by
    intro l
    induction l with
    | nil => intro acc _ _; simp [lcM]
    | cons d ds ih =>
      intro acc hl h
      obtain ⟨ρ1, ρ3, e1, e2, e3, e4⟩ := turnM_ok (h d (List.mem_cons_self ..))
      rw [List.length_cons] at hl
      rw [List.map_cons, lcM, if_pos hp, e1, R.bind_ok, ap_tYes, R.bind_ok, if_pos rfl, e2, R.bind_ok, if_pos ⟨by omega, e3⟩, e4]
      rw [ih (acc ++ [F d]) (by rw [List.length_append, List.length_singleton]; omega) fun z hz => h z (List.mem_cons_of_mem _ hz)]
      simp
  have := main l [] (by simpa using hl) h
  simpa using this
/-- turns that change the slots: I n holds behind n of them -/
theorem lcM_run2 {I : Nat → Ro → Prop} {P : D → Prop} : ∀ (ds : List D) (acc : List D) (n : Nat) (ρ : Ro), ds.length + acc.length ≤ sizeLine → I n ρ →
    (∀ d ∈ ds, ∀ k ρ, n ≤ k → k < n + ds.length → I k ρ → plainR ρ vs = true ∧ ∃ y ρ', turnM vs t el ρ d = .ok y ρ' ∧ I (k + 1) ρ' ∧ P y) →
    ∃ ys ρ', lcM vs t tYesM el ds acc ρ = .ok (acc ++ ys) ρ' ∧ I (n + ds.length) ρ' ∧ ys.length = ds.length ∧ ∀ y ∈ ys, P y
  | [], acc, n, ρ, _, h0, _ => ⟨[], ρ, by simp [lcM], h0, rfl, by simp⟩
  | d :: ds, acc, n, ρ, hl, h0, h => by
    rw [List.length_cons] at hl h
    obtain ⟨hp, y, ρ', e, h1, py⟩ := h d (List.mem_cons_self ..) n ρ (Nat.le_refl _) (by omega) h0
    obtain ⟨ρ1, ρ3, e1, e2, e3, e4⟩ := turnM_ok e
    obtain ⟨ys, ρ'', f, i, l, p⟩ := lcM_run2 ds (acc ++ [y]) (n + 1) ρ' (by rw [List.length_append, List.length_singleton]; omega) h1 fun z hz k ρ a b i => h z (List.mem_cons_of_mem _ hz) k ρ (by omega) (by omega) i
    refine ⟨y :: ys, ρ'', ?_, by rw [List.length_cons, show n + (ds.length + 1) = n + 1 + ds.length by omega]; exact i, by simp [l], fun z hz => ?_⟩
    · rw [lcM, if_pos hp, e1, R.bind_ok, ap_tYes, R.bind_ok, if_pos rfl, e2, R.bind_ok, if_pos ⟨by omega, e3⟩, e4, f]
      simp
    · rcases List.mem_cons.mp hz with e | e
      · rw [e]; exact py
      · exact p z e
theorem ints_of {p : Int → Prop} : ∀ {ys : List D}, (∀ y ∈ ys, ∃ k, y = .int k ∧ p k) → ∃ ks : List Int, ys = ks.map .int ∧ ∀ k ∈ ks, p k
  | [], _ => ⟨[], rfl, by simp⟩
  | y :: ys, h => by
    obtain ⟨k, e, q⟩ := h y (List.mem_cons_self ..)
    obtain ⟨ks, e2, q2⟩ := ints_of fun z hz => h z (List.mem_cons_of_mem _ hz)
    exact ⟨k :: ks, by rw [e, e2]; rfl, fun z hz => by
      rcases List.mem_cons.mp hz with e | e
      · rw [e]; exact q
      · exact q2 z e⟩
/-- a for's turn -/
def turnF (t : Tg) (body : M Fl) (ρ : Ro) (d : D) : R Fl := (putT t d ρ).bind fun _ ρ => body ρ
theorem forM_inv {body : M Fl} {I : Nat → Ro → Prop} : ∀ (ds : List D) (n : Nat) (ρ : Ro), I n ρ →
    (∀ d ∈ ds, ∀ k ρ, n ≤ k → k < n + ds.length → I k ρ → ∃ ρ', turnF t body ρ d = .ok .nx ρ' ∧ I (k + 1) ρ') →
    ∃ ρ', forM t body ds ρ = .ok .nx ρ' ∧ I (n + ds.length) ρ'
  | [], n, ρ, h0, _ => ⟨ρ, rfl, h0⟩
  | d :: ds, n, ρ, h0, h => by
    rw [List.length_cons] at h
    obtain ⟨ρ', e, i⟩ := h d (List.mem_cons_self ..) n ρ (Nat.le_refl _) (by omega) h0
    obtain ⟨ρ'', f, j⟩ := forM_inv ds (n + 1) ρ' i fun z hz k ρ a b i => h z (List.mem_cons_of_mem _ hz) k ρ (by omega) (by omega) i
    refine ⟨ρ'', ?_, by rw [List.length_cons, show n + (ds.length + 1) = n + 1 + ds.length by omega]; exact j⟩
    unfold turnF at e
    cases e1 : putT t d ρ with
    | ok u ρ1 =>
      rw [e1, R.bind_ok] at e
      show ((putT t d ρ).bind fun _ ρ => (body ρ).bind fun f ρ => _) = _
      rw [e1, R.bind_ok, e, R.bind_ok]
      exact f
    | exc x ρ3 => rw [e1] at e; cases e
    | stuck => rw [e1] at e; cases e
theorem lcM_zip {ρ : Ro} (xs ys : List Int) (F : Int → Int → D) (hp : plainR ρ vs = true) (hl : xs.length ≤ sizeLine) (h : ∀ x ∈ xs, ∀ y ∈ ys, turnM vs t el ρ (.tup [.int x, .int y]) = .ok (F x y) ρ) :
    lcM vs t tYesM el (xs.zipWith (fun x y => D.tup [.int x, .int y]) ys) [] ρ = .ok (xs.zipWith F ys) ρ := by
  have := lcM_map (el := el) (t := t) (vs := vs) (ρ := ρ) (fun p : Int × Int => D.tup [.int p.1, .int p.2]) (xs.zip ys) (fun p => F p.1 p.2) hp (by rw [List.length_zip]; exact Nat.le_trans (Nat.min_le_left _ _) hl) fun p hp => h _ (List.of_mem_zip hp).1 _ (List.of_mem_zip hp).2
  simpa [List.zip, List.map_zipWith] using this
@[simp] theorem op_sumF {β : Type} {l : List β} {f : β → Int} : sumD [.lst (l.map fun x => .int (f x))] = .ok (.int (l.map f).sum) := by
  have := op_sum (ns := l.map f)
  rw [List.map_map] at this
  exact this
@[simp] theorem op_sumZ {β γ : Type} {l : List β} {l' : List γ} {f : β → γ → Int} : sumD [.lst (l.zipWith (fun x y => .int (f x y)) l')] = .ok (.int (l.zipWith f l').sum) := by
  have := op_sum (ns := l.zipWith f l')
  rw [List.map_zipWith] at this
  exact this
@[simp] theorem op_allF {β : Type} {l : List β} {f : β → Bool} : allD [.lst (l.map fun x => .bl (f x))] = .ok (.bl (l.all f)) := by
  have := op_all (bs := l.map f)
  rw [List.map_map] at this
  rw [show (List.map (fun x => D.bl (f x)) l) = List.map (D.bl ∘ f) l from rfl, this]
  simp
@[simp] theorem op_anyF {β : Type} {l : List β} {f : β → Bool} : anyD [.lst (l.map fun x => .bl (f x))] = .ok (.bl (l.any f)) := by
  have := op_any (bs := l.map f)
  rw [List.map_map] at this
  rw [show (List.map (fun x => D.bl (f x)) l) = List.map (D.bl ∘ f) l from rfl, this]
  simp
@[simp] theorem okDs_intF {β : Type} {n : Nat} {f : β → Int} {l : List β} : okDs n (l.map fun x => .int (f x)) = true := okDs_all fun z hz => by
  obtain ⟨x, _, e⟩ := List.mem_map.mp hz
  rw [← e]; simp
@[simp] theorem okDs_intZ {β γ : Type} {n : Nat} {f : β → γ → Int} {l : List β} {l' : List γ} : okDs n (l.zipWith (fun x y => .int (f x y)) l') = true := by
  have := okDs_ints (n := n) (ns := l.zipWith f l')
  rw [List.map_zipWith] at this
  exact this
end
end Mr
namespace Mr
open PySem PySem.Spec PyProof.Rows L2
/-! ### the law's bowl: what its draws are worth -/
theorem op_pow {i j : Int} {a : Nat} (h0 : 0 ≤ j) (h : Sz a i) (l : (a : Int) * j ≤ 2 ^ 27) : powD (.int i) (.int j) = .ok (.int (i ^ j.toNat)) := by
  have h1 := h.bits
  refine if_pos ⟨h0, ?_⟩
  have : (Builtin.Int.intBits i : Int) * j ≤ (a : Int) * j := Int.mul_le_mul_of_nonneg_right (by omega) h0
  omega
theorem sz_ten : Sz 4 10 := by unfold Sz; decide
def T18 : Int := 10 ^ 18
def T19 : Int := 10 ^ 19
def T60 : Int := 10 ^ 60
def T61 : Int := 10 ^ 61
def T671 : Int := 10 ^ 671
theorem sz_T18 : Sz 60 T18 := by unfold Sz T18; decide
theorem sz_T19 : Sz 64 T19 := by unfold Sz T19; decide
theorem sz_T60 : Sz 200 T60 := by unfold Sz T60; decide
theorem sz_T61 : Sz 203 T61 := by unfold Sz T61; decide
theorem sz_T671 : Sz 2300 T671 := by unfold Sz T671; decide
theorem pos_T18 : 0 < T18 := by unfold T18; decide
theorem pos_T19 : 0 < T19 := by unfold T19; decide
theorem pos_T60 : 0 < T60 := by unfold T60; decide
theorem pos_T671 : 0 < T671 := by unfold T671; decide
@[simp] theorem pow_18 : powD (.int 10) (.int 18) = .ok (.int T18) := op_pow (by decide) sz_ten (by decide)
@[simp] theorem pow_19 : powD (.int 10) (.int 19) = .ok (.int T19) := op_pow (by decide) sz_ten (by decide)
@[simp] theorem pow_60 : powD (.int 10) (.int 60) = .ok (.int T60) := op_pow (by decide) sz_ten (by decide)
@[simp] theorem pow_61 : powD (.int 10) (.int 61) = .ok (.int T61) := op_pow (by decide) sz_ten (by decide)
@[simp] theorem pow_671 : powD (.int T61) (.int 11) = .ok (.int T671) := by
  rw [op_pow (by decide) sz_T61 (by decide)]
  have : T61 ^ (11 : Int).toNat = T671 := by unfold T61 T671; decide
  rw [this]
def B_bowl : M Fl :=
  (xSeq (xPut (.sl 2) (mIf (tOf (m2 ltD (mVar 1) (mL lenD (mCons (mVar 0) mNil)))) (m2 ixD (mVar 0) (mVar 1)) (m2 addD (m2 mulD (mC (.int 61)) (mVar 1)) (mC (.int 31)))))
  (xSeq (xPut (.sl 3) (m2 modD (mL intD (mCons (mL absD (mCons (mVar 2) mNil)) mNil)) (m2 powD (m2 powD (mC (.int 10)) (mC (.int 61))) (mC (.int 11)))))
  (xSeq (xPut (.sl 4) (m2 addD (m2 addD (m2 addD (m2 mulD (m2 modD (mL intD (mCons (mVar 3) mNil)) (mC (.int 2147483269))) (mC (.int 95273))) (m2 mulD (mC (.int 9403)) (mVar 1))) (m2 mulD (mC (.int 43)) (mL intD (mCons (m2 ltD (mVar 2) (mC (.int 0))) mNil)))) (mC (.int 71))))
  (xRetN (mLstN (mCons (mL max2D (mCons (mC (.int 0)) (mCons (m2 subD (mVar 3) (m2 powD (mC (.int 10)) (mC (.int 18)))) mNil))) (mCons (m2 modD (mL intD (mCons (mVar 4) mNil)) (mC (.int 2305843009213693907))) (mCons (mC (.int 0)) mNil))))))))
/-- a bowl from which at most n were drawn -/
def Bowl (n : Nat) (xs : List D) : Prop := ∃ a b c : Int, xs = [.int a, .int b, .int c] ∧ 0 ≤ a ∧ Sz 2300 a ∧ 0 ≤ b ∧ Sz 61 b ∧ 0 ≤ c ∧ c ≤ n
theorem mulOkS {i j : Int} {a b : Nat} (h : Sz a i) (h' : Sz b j) (l : a + b ≤ 134217728 := by decide) : mulOk i j := h.mulOk h' l
theorem sz_small {i : Int} (h0 : 0 ≤ i) (h1 : i < 18446744073709551616) : Sz 64 i := Sz.of_nat h0 h1
theorem E_bowl {ns : List Int} {k : Nat} (hk : k < 64) : ∃ xs, runN 5 B_bowl [.frz (ns.map .int), .int k] = .ok xs ∧ Bowl 0 xs := by
  obtain ⟨c, hc⟩ : ∃ c : Int, (k < ns.length ∧ (ns.map D.int)[k]? = some (.int c)) ∨ (¬ k < ns.length ∧ mulOk 61 k ∧ c = 61 * k + 31) := by
    by_cases h : k < ns.length
    · exact ⟨ns[k], .inl ⟨h, by simp [h]⟩⟩
    · exact ⟨61 * k + 31, .inr ⟨h, mulOkS (a := 64) (b := 64) (sz_small (by decide) (by decide)) (sz_small (by omega) (by omega)), rfl⟩⟩
  have hg1 : (0:Int) ≤ (if c < 0 then -c else c).fmod T671 := Int.fmod_nonneg_of_pos _ pos_T671
  have hg2 : Sz 2300 ((if c < 0 then -c else c).fmod T671) := sz_T671.fmod pos_T671
  obtain ⟨g, hg⟩ : ∃ g, g = (if c < 0 then -c else c).fmod T671 := ⟨_, rfl⟩
  rw [← hg] at hg1 hg2
  have b1 := Int.fmod_nonneg_of_pos g (show (0:Int) < 2147483269 by decide)
  have b2 := Int.fmod_lt_of_pos g (show (0:Int) < 2147483269 by decide)
  have m1 : mulOk (g.fmod 2147483269) 95273 := mulOkS (a := 64) (b := 64) (sz_small b1 (by omega)) (sz_small (by decide) (by decide))
  have m2 : mulOk 9403 k := mulOkS (a := 64) (b := 64) (sz_small (by decide) (by decide)) (sz_small (by omega) (by omega))
  have m3 : mulOk 43 (if c < 0 then 1 else 0) := mulOkS (a := 64) (b := 64) (sz_small (by decide) (by decide)) (by split <;> exact sz_small (by decide) (by decide))
  have m4 : T671 ≠ 0 := by have := pos_T671; omega
  refine ⟨[.int (if g - T18 > 0 then g - T18 else 0), .int (((((g.fmod 2147483269) * 95273) + 9403 * k) + 43 * (if c < 0 then 1 else 0) + 71).fmod 2305843009213693907), .int 0], ?_, ?_⟩
  · unfold runN B_bowl
    rcases hc with ⟨h, e⟩ | ⟨h, m0, rfl⟩
    · simp [h, ixD_frz e, op_modI m4, ← hg, op_modI, op_mulI m1, op_mulI m2, op_mulI m3, sizeLine_eq]
    · simp [h, op_mulI m0, op_modI m4, ← hg, op_modI, op_mulI m1, op_mulI m2, op_mulI m3, sizeLine_eq]
  · refine ⟨_, _, _, rfl, ?_, ?_, ?_, ?_, ?_, ?_⟩
    · split <;> omega
    · split
      · refine hg2.of_abs ?_
        have := pos_T18
        omega
      · exact Sz.zero
    · exact Int.fmod_nonneg_of_pos _ (by decide)
    · exact Sz.fmod (by unfold Sz; decide) (by decide)
    · decide
    · decide
def B_bit : M Fl :=
  (xSeq (xIf (tOf (m2 gtD (mIxN 0 (mC (.int 0))) (mC (.int 0)))) (xSeq (xPut (.sl 4) (m2 modD (mL intD (mCons (mIxN 0 (mC (.int 0))) mNil)) (mVar 1)))
  (xSeq (xSetIx 0 (m2 divD (mIxN 0 (mC (.int 0))) (mVar 1)) (mC (.int 0)))
  (xRet (mVar 4)))) xNx)
  (xSeq (xSetIx 0 (m2 addD (mIxN 0 (mC (.int 2))) (mC (.int 1))) (mC (.int 2)))
  (xSeq (xPut (.sl 2) (m2 modD (mL intD (mCons (m2 addD (mIxN 0 (mC (.int 1))) (m2 mulD (mC (.int 1000427)) (mIxN 0 (mC (.int 2))))) mNil)) (mC (.int 2305843009213693951))))
  (xSeq (xPut (.sl 3) (m2 addD (m2 mulD (m2 modD (mL intD (mCons (m2 mulD (mVar 2) (mVar 2)) mNil)) (mC (.int 2305843009213693921))) (mVar 2)) (m2 mulD (mC (.int 9091)) (mIxN 0 (mC (.int 2))))))
  (xRet (m2 modD (mL intD (mCons (m2 divD (m2 modD (mL intD (mCons (mVar 3) mNil)) (mC (.int 2305843009213693907))) (mC (.int 16384))) mNil)) (mVar 1)))))))
@[simp] theorem at0 {a b c : D} : atI [a, b, c] 0 = some a := id rfl
@[simp] theorem at1 {a b c : D} : atI [a, b, c] 1 = some b := id rfl
@[simp] theorem at2 {a b c : D} : atI [a, b, c] 2 = some c := id rfl
@[simp] theorem ix0' : ixN 3 0 = some 0 := id rfl
@[simp] theorem ix2' : ixN 3 2 = some 2 := id rfl
/-- a draw: 0 to m - 1 -/
theorem E_bit {xs : List D} {n : Nat} {m : Int} (h : Bowl n xs) (hm : 0 < m) (hs : Sz 9000 m) (hn : n < 1000000) : ∃ (k : Int) (ys : List D), runI 5 B_bit (.own true xs) [.int m] = .ok (.int k) (.own true ys) ∧ 0 ≤ k ∧ k < m ∧ Bowl (n + 1) ys := by
  obtain ⟨a, b, c, rfl, a0, a1, b0, b1, c0, c1⟩ := h
  have hm0 : m ≠ 0 := by omega
  by_cases ha : 0 < a
  · refine ⟨a.fmod m, [.int (a.fdiv m), .int b, .int c], ?_, Int.fmod_nonneg_of_pos _ hm, Int.fmod_lt_of_pos _ hm, _, _, _, rfl, ?_, ?_, b0, b1, c0, by omega⟩
    · unfold runI B_bit
      simp [ha, op_modI hm0, op_divI (hs.divOk hm0)]
    · exact Int.fdiv_nonneg a0 (by omega)
    · refine a1.of_abs ?_
      rw [Int.fdiv_eq_ediv_of_nonneg _ (by omega)]
      have := Int.ediv_le_self m a0
      have := Int.ediv_nonneg a0 (by omega : 0 ≤ m)
      omega
  · have sc : Sz 64 (c + 1) := sz_small (by omega) (by omega)
    have m1 : mulOk 1000427 (c + 1) := mulOkS (a := 64) (b := 64) (sz_small (by decide) (by decide)) sc
    have m2 : mulOk 9091 (c + 1) := mulOkS (a := 64) (b := 64) (sz_small (by decide) (by decide)) sc
    obtain ⟨o, ho⟩ : ∃ o, o = (b + 1000427 * (c + 1)).fmod 2305843009213693951 := ⟨_, rfl⟩
    have o1 : 0 ≤ o := by rw [ho]; exact Int.fmod_nonneg_of_pos _ (by decide)
    have o2 : o < 2305843009213693951 := by rw [ho]; exact Int.fmod_lt_of_pos _ (by decide)
    have so : Sz 64 o := sz_small o1 (by omega)
    have m3 : mulOk o o := mulOkS so so
    have s4 : Sz 64 ((o * o).fmod 2305843009213693921) := Sz.fmod (sz_small (by decide) (by decide)) (by decide)
    have m4 : mulOk ((o * o).fmod 2305843009213693921) o := mulOkS s4 so
    have d1 : ∀ i : Int, divOk i 16384 := fun i => Sz.divOk (b := 64) (sz_small (by decide) (by decide)) (by decide)
    refine ⟨((((((o * o).fmod 2305843009213693921) * o + 9091 * (c + 1)).fmod 2305843009213693907).fdiv 16384).fmod m), [.int a, .int b, .int (c + 1)], ?_, ?_, ?_, ?_⟩
    · unfold runI B_bit
      simp [ha, op_mulI m1, op_modI, ← ho, op_mulI m3, op_mulI m4, op_mulI m2, op_divI (d1 _), op_modI hm0]
    · exact Int.fmod_nonneg_of_pos _ hm
    · exact Int.fmod_lt_of_pos _ hm
    · exact ⟨_, _, _, rfl, a0, a1, b0, b1, by omega, by omega⟩
end Mr
namespace K07
open PySem PySem.Spec PyProof.Rows L2 Mr
def topS (i : Nat) : Stmt := PySem.Challenge.pw_staystarts_k07_values_sums_and_multiples.main.body.getD i (.Pass ⟨0, 0, 0, 0⟩)
def c_WIDEST : Int := 4
def c_GREATEST : Int := 99999999999999999999999999999999999999999999999999999999999999999999999999999999999999999999999999999999999999999999999999999999999999999999999999999999999999999999999999999999999999999999999999999999
/-- what the text's top has left -/
structure Tx (K : PySem.W.Frag) (mg : Str → Option Value) where
  a3 : Addr
  fd3 : FuncData
  f3 : FunD K "is_integer" "is_integer" (defArgs (topS 3)) (defBody (topS 3)) (defScope (topS 3)) [] [] a3 fd3
  g3 : mg "is_integer" = some (.ref a3)
  a4 : Addr
  fd4 : FuncData
  f4 : FunD K "is_row" "is_row" (defArgs (topS 4)) (defBody (topS 4)) (defScope (topS 4)) [] [] a4 fd4
  g4 : mg "is_row" = some (.ref a4)
  a11 : Addr
  fd11 : FuncData
  f11 : FunD K "require_row" "require_row" (defArgs (topS 11)) (defBody (topS 11)) (defScope (topS 11)) [V.non] [] a11 fd11
  g11 : mg "require_row" = some (.ref a11)
  a12 : Addr
  fd12 : FuncData
  f12 : FunD K "value_by" "value_by" (defArgs (topS 12)) (defBody (topS 12)) (defScope (topS 12)) [] [] a12 fd12
  g12 : mg "value_by" = some (.ref a12)
  a13 : Addr
  fd13 : FuncData
  f13 : FunD K "value_of" "value_of" (defArgs (topS 13)) (defBody (topS 13)) (defScope (topS 13)) [] [] a13 fd13
  g13 : mg "value_of" = some (.ref a13)
  a14 : Addr
  fd14 : FuncData
  f14 : FunD K "added" "added" (defArgs (topS 14)) (defBody (topS 14)) (defScope (topS 14)) [] [] a14 fd14
  g14 : mg "added" = some (.ref a14)
  a15 : Addr
  fd15 : FuncData
  f15 : FunD K "scaled" "scaled" (defArgs (topS 15)) (defBody (topS 15)) (defScope (topS 15)) [] [] a15 fd15
  g15 : mg "scaled" = some (.ref a15)
  a17 : Addr
  fd17 : FuncData
  f17 : FunD K "_law_bowl" "_law_bowl" (defArgs (topS 17)) (defBody (topS 17)) (defScope (topS 17)) [] [] a17 fd17
  g17 : mg "_law_bowl" = some (.ref a17)
  a18 : Addr
  fd18 : FuncData
  f18 : FunD K "_law_bit" "_law_bit" (defArgs (topS 18)) (defBody (topS 18)) (defScope (topS 18)) [] [] a18 fd18
  g18 : mg "_law_bit" = some (.ref a18)
  a19 : Addr
  fd19 : FuncData
  f19 : FunD K "_law_amount" "_law_amount" (defArgs (topS 19)) (defBody (topS 19)) (defScope (topS 19)) [] [] a19 fd19
  g19 : mg "_law_amount" = some (.ref a19)
  a20 : Addr
  fd20 : FuncData
  f20 : FunD K "_law_size" "_law_size" (defArgs (topS 20)) (defBody (topS 20)) (defScope (topS 20)) [] [] a20 fd20
  g20 : mg "_law_size" = some (.ref a20)
  a21 : Addr
  fd21 : FuncData
  f21 : FunD K "_law_right" "_law_right" (defArgs (topS 21)) (defBody (topS 21)) (defScope (topS 21)) [] [] a21 fd21
  g21 : mg "_law_right" = some (.ref a21)
  a22 : Addr
  fd22 : FuncData
  f22 : FunD K "law" "law" (defArgs (topS 22)) (defBody (topS 22)) (defScope (topS 22)) [] [] a22 fd22
  g22 : mg "law" = some (.ref a22)
  t1 : Tok
  c_WIDEST : mg "WIDEST" = some (.int c_WIDEST t1)
  t2 : Tok
  c_GREATEST : mg "GREATEST" = some (.int c_GREATEST t2)
  n_abs : mg "abs" = none
  n_all : mg "all" = none
  n_bool : mg "bool" = none
  n_int : mg "int" = none
  n_isinstance : mg "isinstance" = none
  n_len : mg "len" = none
  n_max : mg "max" = none
  n_min : mg "min" = none
  n_range : mg "range" = none
  n_sum : mg "sum" = none
  n_tuple : mg "tuple" = none
  n_zip : mg "zip" = none
section
variable {P : Program} {w : World} {K : PySem.W.Frag} {mg : Str → Option Value} {base : Heap}
/-! is_integer -/
abbrev s_is_integer : Stmt := topS 3
theorem sc_is_integer : FnScope ["value"] ["value"] (defScope s_is_integer) := ⟨rfl, rfl, rfl, by decide +kernel, rfl, by decide +kernel, by decide +kernel⟩
noncomputable def b_is_integer : M Fl :=
  (xRet (mAnd (mL isiD (mCons (mVar 0) (mCons (mC (.opq (.ty "int"))) mNil))) (mAnd (m1 notD (mL isiD (mCons (mVar 0) (mCons (mC (.opq (.ty "bool"))) mNil)))) (mChain leD leD (m1 negD (mC (.int c_GREATEST))) (mVar 0) (mC (.int c_GREATEST))))))
noncomputable def m_is_integer : List D → FR D := runF 1 b_is_integer
theorem bd_is_integer (T : Tx K mg) : Binds K T.fd3 ["value"] [] := T.f3.bindsN fun _ _ _ _ _ _ us hl => match us, hl with | [_], _ => rfl
theorem ok_is_integer (T : Tx K mg) : FnOk P w K mg base (L2.CX P w) 1 T.a3 T.fd3 ["value"] (PSp K 1 m_is_integer) := by
  refine fn_val (N := ["value"]) T.f3 sc_is_integer rfl fun cdv A outer s H E hr => ?_
  have tk := takes_of (X := cxOf (L2.CX P w) P w K mg base ["value"] "is_integer" (defScope s_is_integer) T.a3 cdv A outer s H E) (E := E) rfl rfl rfl rfl
  have hp := passes_of (X := cxOf (L2.CX P w) P w K mg base ["value"] "is_integer" (defScope s_is_integer) T.a3 cdv A outer s H E) rfl
  have hu := hr.units
  exact (AB.one (AS.ret (AE.and (AE.blt CA.isi (by rfl) T.n_isinstance (by decide +kernel) (AA.cons (AE.var (pv 0)) (AA.cons (AE.ty (T := "int") (by rfl) T.n_int (by decide +kernel)) AA.nil))) (AE.and (AE.not (AE.blt CA.isi (by rfl) T.n_isinstance (by decide +kernel) (AA.cons (AE.var (pv 0)) (AA.cons (AE.ty (T := "bool") (by rfl) T.n_bool (by decide +kernel)) AA.nil)))) (AE.one (AE.chain OA.le OA.le (AE.un UA.neg (AE.gint rfl T.c_GREATEST)) (AE.var (pv 0)) (AE.gint rfl T.c_GREATEST)))))))
/-! is_row -/
abbrev s_is_row : Stmt := topS 4
theorem sc_is_row : FnScope ["value", "number"] ["value"] (defScope s_is_row) := ⟨rfl, rfl, rfl, by decide +kernel, rfl, by decide +kernel, by decide +kernel⟩
noncomputable def b_is_row : M Fl :=
  (xSeq (xIf (tOr (tNot (tOf (mL isiD (mCons (mVar 0) (mCons (mC (.opq (.ty "tuple"))) mNil))))) (tNot (tOf (mChain leD leD (mC (.int 1)) (mL lenD (mCons (mVar 0) mNil)) (mC (.int c_WIDEST)))))) (xRet (mC (.bl false))) xNx)
  (xRet (mL allD (mCons (mOfN (mLc (mWalk (mVar 0)) [1] (.sl 1) tYesM (mCall m_is_integer 1 [] (mCons (mVar 1) mNil)))) mNil))))
noncomputable def m_is_row : List D → FR D := runF 2 b_is_row
theorem bd_is_row (T : Tx K mg) : Binds K T.fd4 ["value"] [] := T.f4.bindsN fun _ _ _ _ _ _ us hl => match us, hl with | [_], _ => rfl
theorem ok_is_row (T : Tx K mg) : FnOk P w K mg base (L2.CX P w) 2 T.a4 T.fd4 ["value"] (PSp K 1 m_is_row) := by
  refine fn_val (N := ["value", "number"]) T.f4 sc_is_row rfl fun cdv A outer s H E hr => ?_
  have tk := takes_of (X := cxOf (L2.CX P w) P w K mg base ["value", "number"] "is_row" (defScope s_is_row) T.a4 cdv A outer s H E) (E := E) rfl rfl rfl rfl
  have hp := passes_of (X := cxOf (L2.CX P w) P w K mg base ["value", "number"] "is_row" (defScope s_is_row) T.a4 cdv A outer s H E) rfl
  have hu := hr.units
  exact (AB.cons (AS.if_ (AW.pt (AW.or (AT.not (AT.val (AE.blt CA.isi (by rfl) T.n_isinstance (by decide +kernel) (AA.cons (AE.var (pv 0)) (AA.cons (AE.ty (T := "tuple") (by rfl) T.n_tuple (by decide +kernel)) AA.nil))))) (AW.or1 (AT.not (AT.chain OA.le OA.le AE.int (AE.blt CA.len (by rfl) T.n_len PySem.boot_len (AA.cons (AE.var (pv 0)) AA.nil)) (AE.gint rfl T.c_WIDEST)))))) (AB.one (AS.ret AE.bl)) AB.nil)
    (AB.one (AS.ret (AE.blt (CA.all rfl) (by rfl) T.n_all (by decide +kernel) (AA.cons (AE.ofN (AN.lc (own := [("number", 1)]) (t := (.sl 1)) rfl sc_is_row.nd (AI.any (AE.var (pv 0))) (blkOk_by (N := ["value", "number"]) (sc := defScope s_is_row) (by decide +kernel)) (by decide) (fun _ _ _ _ _ => (AG.name sc_is_row.nd rfl (.inl rfl))) (fun _ _ _ _ _ => ATs.nil) (fun _ _ _ _ _ => (AE.call (ok_is_integer T) (hr.mono (by decide)) (by rfl) T.g3 T.f3.kp (bd_is_integer T) .nil (fun _ _ => .nil) takes0 (AA.cons (AE.var (pv 1)) AA.nil))))) AA.nil)))))
/-! require_row -/
abbrev s_require_row : Stmt := topS 11
theorem sc_require_row : FnScope ["value", "width"] ["value", "width"] (defScope s_require_row) := ⟨rfl, rfl, rfl, by decide +kernel, rfl, by decide +kernel, by decide +kernel⟩
noncomputable def b_require_row : M Fl :=
  (xIf (tOr (tNot (tOf (mCall m_is_row 1 [] (mCons (mVar 0) mNil)))) (tAnd (tOf (m2 isntD (mVar 1) (mC .non))) (tOf (m2 neD (mL lenD (mCons (mVar 0) mNil)) (mVar 1))))) xNever xNx)
noncomputable def m_require_row : List D → FR D := runF 2 b_require_row
theorem bd0_require_row (T : Tx K mg) : ∃ dV, Vals [] dV ∧ Binds K T.fd11 ["value", "width"] dV := T.f11.binds1 2 1 (by decide) rfl fun _ _ _ _ _ _ _ us its hu hi => match us, its, hu, hi with | [_, _], [_], _, _ => ⟨_, rfl, rfl⟩
theorem bd1_require_row (T : Tx K mg) : ∃ dV, Vals [V.non] dV ∧ Binds K T.fd11 ["value", "width"] dV := T.f11.binds1 1 0 (by decide) rfl fun _ _ _ _ _ _ _ us its hu hi => match us, its, hu, hi with | [_], [_], _, _ => ⟨_, rfl, rfl⟩
theorem ok_require_row (T : Tx K mg) : FnOk P w K mg base (L2.CX P w) 3 T.a11 T.fd11 ["value", "width"] (PSp K 2 m_require_row) := by
  refine fn_val (N := ["value", "width"]) T.f11 sc_require_row rfl fun cdv A outer s H E hr => ?_
  have tk := takes_of (X := cxOf (L2.CX P w) P w K mg base ["value", "width"] "require_row" (defScope s_require_row) T.a11 cdv A outer s H E) (E := E) rfl rfl rfl rfl
  have hp := passes_of (X := cxOf (L2.CX P w) P w K mg base ["value", "width"] "require_row" (defScope s_require_row) T.a11 cdv A outer s H E) rfl
  have hu := hr.units
  exact (AB.one (AS.if_ (AW.pt (AW.or (AT.not (AT.val (AE.call (ok_is_row T) (hr.mono (by decide)) (by rfl) T.g4 T.f4.kp (bd_is_row T) .nil (fun _ _ => .nil) tk (AA.cons (AE.var (pv 0)) AA.nil)))) (AW.or1 (AW.pt (AW.and (AT.cmp OA.notN (AE.var (pv 1)) AE.non (nomark _)) (AW.and1 (AT.cmp (OA.ne hu) (AE.blt CA.len (by rfl) T.n_len PySem.boot_len (AA.cons (AE.var (pv 0)) AA.nil)) (AE.var (pv 1)) (nomark _)))))))) (AB.one AS.never) AB.nil))
/-! value_by -/
abbrev s_value_by : Stmt := topS 12
theorem sc_value_by : FnScope ["row", "point", "one", "other"] ["row", "point"] (defScope s_value_by) := ⟨rfl, rfl, rfl, by decide +kernel, rfl, by decide +kernel, by decide +kernel⟩
noncomputable def b_value_by : M Fl :=
  (xRet (mL sumD (mCons (mOfN (mLc (mItL zipD (mCons (mVar 0) (mCons (mVar 1) mNil))) [2, 3] (.tp [(.sl 2), (.sl 3)]) tYesM (m2 mulD (mVar 2) (mVar 3)))) mNil)))
noncomputable def m_value_by : List D → FR D := runF 4 b_value_by
theorem bd_value_by (T : Tx K mg) : Binds K T.fd12 ["row", "point"] [] := T.f12.bindsN fun _ _ _ _ _ _ us hl => match us, hl with | [_, _], _ => rfl
theorem ok_value_by (T : Tx K mg) : FnOk P w K mg base (L2.CX P w) 1 T.a12 T.fd12 ["row", "point"] (PSp K 2 m_value_by) := by
  refine fn_val (N := ["row", "point", "one", "other"]) T.f12 sc_value_by rfl fun cdv A outer s H E hr => ?_
  have tk := takes_of (X := cxOf (L2.CX P w) P w K mg base ["row", "point", "one", "other"] "value_by" (defScope s_value_by) T.a12 cdv A outer s H E) (E := E) rfl rfl rfl rfl
  have hp := passes_of (X := cxOf (L2.CX P w) P w K mg base ["row", "point", "one", "other"] "value_by" (defScope s_value_by) T.a12 cdv A outer s H E) rfl
  have hu := hr.units
  exact (AB.one (AS.ret (AE.blt (CA.sum rfl) (by rfl) T.n_sum (by decide +kernel) (AA.cons (AE.ofN (AN.lc (own := [("one", 2), ("other", 3)]) (t := (.tp [(.sl 2), (.sl 3)])) rfl sc_value_by.nd (AI.zip (by rfl) T.n_zip (AA.cons (AE.var (pv 0)) (AA.cons (AE.var (pv 1)) AA.nil))) (blkOk_by (N := ["row", "point", "one", "other"]) (sc := defScope s_value_by) (by decide +kernel)) (by decide) (fun _ _ _ _ _ => (AG.tup rfl (AGs.cons (AG.name sc_value_by.nd rfl (.inl rfl)) (AGs.cons (AG.name sc_value_by.nd rfl (.inl rfl)) AGs.nil)))) (fun _ _ _ _ _ => ATs.nil) (fun _ _ _ _ _ => (AE.bin OA.mul (AE.var (pv 2)) (AE.var (pv 3)))))) AA.nil))))
/-! value_of -/
abbrev s_value_of : Stmt := topS 13
theorem sc_value_of : FnScope ["form", "point"] ["form", "point"] (defScope s_value_of) := ⟨rfl, rfl, rfl, by decide +kernel, rfl, by decide +kernel, by decide +kernel⟩
noncomputable def b_value_of : M Fl :=
  (xSeq (xDrop (mCall m_require_row 2 [D.non] (mCons (mVar 0) mNil)))
  (xSeq (xIf (tOr (tNot (tOf (mCall m_is_row 1 [] (mCons (mVar 1) mNil)))) (tOf (m2 neD (mL lenD (mCons (mVar 1) mNil)) (mL lenD (mCons (mVar 0) mNil))))) xNever xNx)
  (xRet (mCall m_value_by 2 [] (mCons (mVar 0) (mCons (mVar 1) mNil))))))
noncomputable def m_value_of : List D → FR D := runF 2 b_value_of
theorem bd_value_of (T : Tx K mg) : Binds K T.fd13 ["form", "point"] [] := T.f13.bindsN fun _ _ _ _ _ _ us hl => match us, hl with | [_, _], _ => rfl
theorem ok_value_of (T : Tx K mg) : FnOk P w K mg base (L2.CX P w) 4 T.a13 T.fd13 ["form", "point"] (PSp K 2 m_value_of) := by
  refine fn_val (N := ["form", "point"]) T.f13 sc_value_of rfl fun cdv A outer s H E hr => ?_
  have tk := takes_of (X := cxOf (L2.CX P w) P w K mg base ["form", "point"] "value_of" (defScope s_value_of) T.a13 cdv A outer s H E) (E := E) rfl rfl rfl rfl
  have hp := passes_of (X := cxOf (L2.CX P w) P w K mg base ["form", "point"] "value_of" (defScope s_value_of) T.a13 cdv A outer s H E) rfl
  have hu := hr.units
  exact (AB.cons (AS.expr (AE.callD (ok_require_row T) (hr.mono (by decide)) (by rfl) T.g11 T.f11.kp (bd1_require_row T) (fun _ _ => (.cons .non .nil)) tk (AA.cons (AE.var (pv 0)) AA.nil)))
    (AB.cons (AS.if_ (AW.pt (AW.or (AT.not (AT.val (AE.call (ok_is_row T) (hr.mono (by decide)) (by rfl) T.g4 T.f4.kp (bd_is_row T) .nil (fun _ _ => .nil) tk (AA.cons (AE.var (pv 1)) AA.nil)))) (AW.or1 (AT.cmp (OA.ne hu) (AE.blt CA.len (by rfl) T.n_len PySem.boot_len (AA.cons (AE.var (pv 1)) AA.nil)) (AE.blt CA.len (by rfl) T.n_len PySem.boot_len (AA.cons (AE.var (pv 0)) AA.nil)) (nomark _))))) (AB.one AS.never) AB.nil)
    (AB.one (AS.ret (AE.call (ok_value_by T) (hr.mono (by decide)) (by rfl) T.g12 T.f12.kp (bd_value_by T) .nil (fun _ _ => .nil) tk (AA.cons (AE.var (pv 0)) (AA.cons (AE.var (pv 1)) AA.nil)))))))
/-! added -/
abbrev s_added : Stmt := topS 14
theorem sc_added : FnScope ["one", "other", "first", "second"] ["one", "other"] (defScope s_added) := ⟨rfl, rfl, rfl, by decide +kernel, rfl, by decide +kernel, by decide +kernel⟩
noncomputable def b_added : M Fl :=
  (xSeq (xDrop (mCall m_require_row 2 [D.non] (mCons (mVar 0) mNil)))
  (xSeq (xDrop (mCall m_require_row 2 [] (mCons (mVar 1) (mCons (mL lenD (mCons (mVar 0) mNil)) mNil))))
  (xRet (mL tupleD (mCons (mOfN (mLc (mItL zipD (mCons (mVar 0) (mCons (mVar 1) mNil))) [2, 3] (.tp [(.sl 2), (.sl 3)]) tYesM (m2 addD (mVar 2) (mVar 3)))) mNil)))))
noncomputable def m_added : List D → FR D := runF 4 b_added
theorem bd_added (T : Tx K mg) : Binds K T.fd14 ["one", "other"] [] := T.f14.bindsN fun _ _ _ _ _ _ us hl => match us, hl with | [_, _], _ => rfl
theorem ok_added (T : Tx K mg) : FnOk P w K mg base (L2.CX P w) 4 T.a14 T.fd14 ["one", "other"] (PSp K 2 m_added) := by
  refine fn_val (N := ["one", "other", "first", "second"]) T.f14 sc_added rfl fun cdv A outer s H E hr => ?_
  have tk := takes_of (X := cxOf (L2.CX P w) P w K mg base ["one", "other", "first", "second"] "added" (defScope s_added) T.a14 cdv A outer s H E) (E := E) rfl rfl rfl rfl
  have hp := passes_of (X := cxOf (L2.CX P w) P w K mg base ["one", "other", "first", "second"] "added" (defScope s_added) T.a14 cdv A outer s H E) rfl
  have hu := hr.units
  exact (AB.cons (AS.expr (AE.callD (ok_require_row T) (hr.mono (by decide)) (by rfl) T.g11 T.f11.kp (bd1_require_row T) (fun _ _ => (.cons .non .nil)) tk (AA.cons (AE.var (pv 0)) AA.nil)))
    (AB.cons (AS.expr (AE.callD (ok_require_row T) (hr.mono (by decide)) (by rfl) T.g11 T.f11.kp (bd0_require_row T) (fun _ _ => .nil) tk (AA.cons (AE.var (pv 1)) (AA.cons (AE.blt CA.len (by rfl) T.n_len PySem.boot_len (AA.cons (AE.var (pv 0)) AA.nil)) AA.nil))))
    (AB.one (AS.ret (AE.bty CA.tuple (by rfl) T.n_tuple (by decide +kernel) (AA.cons (AE.ofN (AN.lc (own := [("first", 2), ("second", 3)]) (t := (.tp [(.sl 2), (.sl 3)])) rfl sc_added.nd (AI.zip (by rfl) T.n_zip (AA.cons (AE.var (pv 0)) (AA.cons (AE.var (pv 1)) AA.nil))) (blkOk_by (N := ["one", "other", "first", "second"]) (sc := defScope s_added) (by decide +kernel)) (by decide) (fun _ _ _ _ _ => (AG.tup rfl (AGs.cons (AG.name sc_added.nd rfl (.inl rfl)) (AGs.cons (AG.name sc_added.nd rfl (.inl rfl)) AGs.nil)))) (fun _ _ _ _ _ => ATs.nil) (fun _ _ _ _ _ => (AE.bin OA.add (AE.var (pv 2)) (AE.var (pv 3)))))) AA.nil))))))
/-! scaled -/
abbrev s_scaled : Stmt := topS 15
theorem sc_scaled : FnScope ["form", "number", "one"] ["form", "number"] (defScope s_scaled) := ⟨rfl, rfl, rfl, by decide +kernel, rfl, by decide +kernel, by decide +kernel⟩
noncomputable def b_scaled : M Fl :=
  (xSeq (xDrop (mCall m_require_row 2 [D.non] (mCons (mVar 0) mNil)))
  (xSeq (xIf (tNot (tOf (mCall m_is_integer 1 [] (mCons (mVar 1) mNil)))) xNever xNx)
  (xRet (mL tupleD (mCons (mOfN (mLc (mWalk (mVar 0)) [2] (.sl 2) tYesM (m2 mulD (mVar 1) (mVar 2)))) mNil)))))
noncomputable def m_scaled : List D → FR D := runF 3 b_scaled
theorem bd_scaled (T : Tx K mg) : Binds K T.fd15 ["form", "number"] [] := T.f15.bindsN fun _ _ _ _ _ _ us hl => match us, hl with | [_, _], _ => rfl
theorem ok_scaled (T : Tx K mg) : FnOk P w K mg base (L2.CX P w) 4 T.a15 T.fd15 ["form", "number"] (PSp K 2 m_scaled) := by
  refine fn_val (N := ["form", "number", "one"]) T.f15 sc_scaled rfl fun cdv A outer s H E hr => ?_
  have tk := takes_of (X := cxOf (L2.CX P w) P w K mg base ["form", "number", "one"] "scaled" (defScope s_scaled) T.a15 cdv A outer s H E) (E := E) rfl rfl rfl rfl
  have hp := passes_of (X := cxOf (L2.CX P w) P w K mg base ["form", "number", "one"] "scaled" (defScope s_scaled) T.a15 cdv A outer s H E) rfl
  have hu := hr.units
  exact (AB.cons (AS.expr (AE.callD (ok_require_row T) (hr.mono (by decide)) (by rfl) T.g11 T.f11.kp (bd1_require_row T) (fun _ _ => (.cons .non .nil)) tk (AA.cons (AE.var (pv 0)) AA.nil)))
    (AB.cons (AS.if_ (AT.not (AT.val (AE.call (ok_is_integer T) (hr.mono (by decide)) (by rfl) T.g3 T.f3.kp (bd_is_integer T) .nil (fun _ _ => .nil) tk (AA.cons (AE.var (pv 1)) AA.nil)))) (AB.one AS.never) AB.nil)
    (AB.one (AS.ret (AE.bty CA.tuple (by rfl) T.n_tuple (by decide +kernel) (AA.cons (AE.ofN (AN.lc (own := [("one", 2)]) (t := (.sl 2)) rfl sc_scaled.nd (AI.any (AE.var (pv 0))) (blkOk_by (N := ["form", "number", "one"]) (sc := defScope s_scaled) (by decide +kernel)) (by decide) (fun _ _ _ _ _ => (AG.name sc_scaled.nd rfl (.inl rfl))) (fun _ _ _ _ _ => ATs.nil) (fun _ _ _ _ _ => (AE.bin OA.mul (AE.var (pv 1)) (AE.var (pv 2)))))) AA.nil))))))
/-! _law_bowl -/
abbrev s__law_bowl : Stmt := topS 17
theorem sc__law_bowl : FnScope ["_law_script", "_law_at", "_law_cell", "_law_great", "_law_blend"] ["_law_script", "_law_at"] (defScope s__law_bowl) := ⟨rfl, rfl, rfl, by decide +kernel, rfl, by decide +kernel, by decide +kernel⟩
noncomputable def b__law_bowl : M Fl :=
  (xSeq (xPut (.sl 2) (mIf (tOf (m2 ltD (mVar 1) (mL lenD (mCons (mVar 0) mNil)))) (m2 ixD (mVar 0) (mVar 1)) (m2 addD (m2 mulD (mC (.int 61)) (mVar 1)) (mC (.int 31)))))
  (xSeq (xPut (.sl 3) (m2 modD (mL intD (mCons (mL absD (mCons (mVar 2) mNil)) mNil)) (m2 powD (m2 powD (mC (.int 10)) (mC (.int 61))) (mC (.int 11)))))
  (xSeq (xPut (.sl 4) (m2 addD (m2 addD (m2 addD (m2 mulD (m2 modD (mL intD (mCons (mVar 3) mNil)) (mC (.int 2147483269))) (mC (.int 95273))) (m2 mulD (mC (.int 9403)) (mVar 1))) (m2 mulD (mC (.int 43)) (mL intD (mCons (m2 ltD (mVar 2) (mC (.int 0))) mNil)))) (mC (.int 71))))
  (xRetN (mLstN (mCons (mL max2D (mCons (mC (.int 0)) (mCons (m2 subD (mVar 3) (m2 powD (mC (.int 10)) (mC (.int 18)))) mNil))) (mCons (m2 modD (mL intD (mCons (mVar 4) mNil)) (mC (.int 2305843009213693907))) (mCons (mC (.int 0)) mNil))))))))
noncomputable def m__law_bowl : List D → FR (List D) := runN 5 b__law_bowl
theorem bd__law_bowl (T : Tx K mg) : Binds K T.fd17 ["_law_script", "_law_at"] [] := T.f17.bindsN fun _ _ _ _ _ _ us hl => match us, hl with | [_, _], _ => rfl
theorem ok__law_bowl (T : Tx K mg) : FnOk P w K mg base (L2.CX P w) 1 T.a17 T.fd17 ["_law_script", "_law_at"] (NSp K 2 m__law_bowl) := by
  refine fn_new (N := ["_law_script", "_law_at", "_law_cell", "_law_great", "_law_blend"]) T.f17 sc__law_bowl rfl fun cdv A outer s H E hr => ?_
  have tk := takes_of (X := cxOf (L2.CX P w) P w K mg base ["_law_script", "_law_at", "_law_cell", "_law_great", "_law_blend"] "_law_bowl" (defScope s__law_bowl) T.a17 cdv A outer s H E) (E := E) rfl rfl rfl rfl
  have hp := passes_of (X := cxOf (L2.CX P w) P w K mg base ["_law_script", "_law_at", "_law_cell", "_law_great", "_law_blend"] "_law_bowl" (defScope s__law_bowl) T.a17 cdv A outer s H E) rfl
  have hu := hr.units
  exact (AB.cons (AS.set sc__law_bowl.nd rfl (.inl rfl) (AE.ifx (AT.cmp OA.lt (AE.var (pv 1)) (AE.blt CA.len (by rfl) T.n_len PySem.boot_len (AA.cons (AE.var (pv 0)) AA.nil)) (nomark _)) (AE.ix (AE.var (pv 0)) (AE.var (pv 1))) (AE.bin OA.add (AE.bin OA.mul AE.int (AE.var (pv 1))) AE.int)))
    (AB.cons (AS.set sc__law_bowl.nd rfl (.inl rfl) (AE.bin OA.mod (AE.bty CA.int (by rfl) T.n_int (by decide +kernel) (AA.cons (AE.blt CA.abs (by rfl) T.n_abs (by decide +kernel) (AA.cons (AE.var (pv 2)) AA.nil)) AA.nil)) (AE.bin OA.pow (AE.bin OA.pow AE.int AE.int) AE.int)))
    (AB.cons (AS.set sc__law_bowl.nd rfl (.inl rfl) (AE.bin OA.add (AE.bin OA.add (AE.bin OA.add (AE.bin OA.mul (AE.bin OA.mod (AE.bty CA.int (by rfl) T.n_int (by decide +kernel) (AA.cons (AE.var (pv 3)) AA.nil)) AE.int) AE.int) (AE.bin OA.mul AE.int (AE.var (pv 1)))) (AE.bin OA.mul AE.int (AE.bty CA.int (by rfl) T.n_int (by decide +kernel) (AA.cons (AE.cmp OA.lt (AE.var (pv 2)) AE.int (nomark _)) AA.nil)))) AE.int))
    (AB.one (AS.retNew (AN.lst (AA.cons (AE.blt (CA.max2 rfl) (by rfl) T.n_max (by decide +kernel) (AA.cons AE.int (AA.cons (AE.bin OA.sub (AE.var (pv 3)) (AE.bin OA.pow AE.int AE.int)) AA.nil))) (AA.cons (AE.bin OA.mod (AE.bty CA.int (by rfl) T.n_int (by decide +kernel) (AA.cons (AE.var (pv 4)) AA.nil)) AE.int) (AA.cons AE.int AA.nil)))))))))
/-! _law_bit -/
abbrev s__law_bit : Stmt := topS 18
theorem sc__law_bit : FnScope ["_law_bowl_here", "_law_among", "_law_one", "_law_two", "_law_found"] ["_law_bowl_here", "_law_among"] (defScope s__law_bit) := ⟨rfl, rfl, rfl, by decide +kernel, rfl, by decide +kernel, by decide +kernel⟩
noncomputable def b__law_bit : M Fl :=
  (xSeq (xIf (tOf (m2 gtD (mIxN 0 (mC (.int 0))) (mC (.int 0)))) (xSeq (xPut (.sl 4) (m2 modD (mL intD (mCons (mIxN 0 (mC (.int 0))) mNil)) (mVar 1)))
  (xSeq (xSetIx 0 (m2 divD (mIxN 0 (mC (.int 0))) (mVar 1)) (mC (.int 0)))
  (xRet (mVar 4)))) xNx)
  (xSeq (xSetIx 0 (m2 addD (mIxN 0 (mC (.int 2))) (mC (.int 1))) (mC (.int 2)))
  (xSeq (xPut (.sl 2) (m2 modD (mL intD (mCons (m2 addD (mIxN 0 (mC (.int 1))) (m2 mulD (mC (.int 1000427)) (mIxN 0 (mC (.int 2))))) mNil)) (mC (.int 2305843009213693951))))
  (xSeq (xPut (.sl 3) (m2 addD (m2 mulD (m2 modD (mL intD (mCons (m2 mulD (mVar 2) (mVar 2)) mNil)) (mC (.int 2305843009213693921))) (mVar 2)) (m2 mulD (mC (.int 9091)) (mIxN 0 (mC (.int 2))))))
  (xRet (m2 modD (mL intD (mCons (m2 divD (m2 modD (mL intD (mCons (mVar 3) mNil)) (mC (.int 2305843009213693907))) (mC (.int 16384))) mNil)) (mVar 1)))))))
noncomputable def m__law_bit : SV → List D → IR := runI 5 b__law_bit
theorem bd__law_bit (T : Tx K mg) : Binds K T.fd18 ["_law_bowl_here", "_law_among"] [] := T.f18.bindsN fun _ _ _ _ _ _ us hl => match us, hl with | [_, _], _ => rfl
theorem ok__law_bit (T : Tx K mg) : FnOk P w K mg base (L2.CX P w) 1 T.a18 T.fd18 ["_law_bowl_here", "_law_among"] (ISp K 1 m__law_bit) := by
  refine fn_io (N := ["_law_bowl_here", "_law_among", "_law_one", "_law_two", "_law_found"]) T.f18 sc__law_bit rfl fun cdv A outer s H E hr => ?_
  have tk := takes_of (X := cxOf (L2.CX P w) P w K mg base ["_law_bowl_here", "_law_among", "_law_one", "_law_two", "_law_found"] "_law_bit" (defScope s__law_bit) T.a18 cdv A outer s H E) (E := E) rfl rfl rfl rfl
  have hp := passes_of (X := cxOf (L2.CX P w) P w K mg base ["_law_bowl_here", "_law_among", "_law_one", "_law_two", "_law_found"] "_law_bit" (defScope s__law_bit) T.a18 cdv A outer s H E) rfl
  have hu := hr.units
  exact (AB.cons (AS.if_ (AT.cmp OA.gt (AE.ixN (pv 0) AE.int) AE.int (nomark _)) (AB.cons (AS.set sc__law_bit.nd rfl (.inl rfl) (AE.bin OA.mod (AE.bty CA.int (by rfl) T.n_int (by decide +kernel) (AA.cons (AE.ixN (pv 0) AE.int) AA.nil)) (AE.var (pv 1))))
    (AB.cons (AS.setIx (AE.bin OA.div (AE.ixN (pv 0) AE.int) (AE.var (pv 1))) (pv 0) AE.int)
    (AB.one (AS.ret (AE.var (pv 4)))))) AB.nil)
    (AB.cons (AS.setIx (AE.bin OA.add (AE.ixN (pv 0) AE.int) AE.int) (pv 0) AE.int)
    (AB.cons (AS.set sc__law_bit.nd rfl (.inl rfl) (AE.bin OA.mod (AE.bty CA.int (by rfl) T.n_int (by decide +kernel) (AA.cons (AE.bin OA.add (AE.ixN (pv 0) AE.int) (AE.bin OA.mul AE.int (AE.ixN (pv 0) AE.int))) AA.nil)) AE.int))
    (AB.cons (AS.set sc__law_bit.nd rfl (.inl rfl) (AE.bin OA.add (AE.bin OA.mul (AE.bin OA.mod (AE.bty CA.int (by rfl) T.n_int (by decide +kernel) (AA.cons (AE.bin OA.mul (AE.var (pv 2)) (AE.var (pv 2))) AA.nil)) AE.int) (AE.var (pv 2))) (AE.bin OA.mul AE.int (AE.ixN (pv 0) AE.int))))
    (AB.one (AS.ret (AE.bin OA.mod (AE.bty CA.int (by rfl) T.n_int (by decide +kernel) (AA.cons (AE.bin OA.div (AE.bin OA.mod (AE.bty CA.int (by rfl) T.n_int (by decide +kernel) (AA.cons (AE.var (pv 3)) AA.nil)) AE.int) AE.int) AA.nil)) (AE.var (pv 1)))))))))
/-! _law_amount -/
abbrev s__law_amount : Stmt := topS 19
theorem sc__law_amount : FnScope ["_law_form", "_law_spot", "_law_one", "_law_other"] ["_law_form", "_law_spot"] (defScope s__law_amount) := ⟨rfl, rfl, rfl, by decide +kernel, rfl, by decide +kernel, by decide +kernel⟩
noncomputable def b__law_amount : M Fl :=
  (xRet (mL sumD (mCons (mOfN (mLc (mItL zipD (mCons (mVar 0) (mCons (mVar 1) mNil))) [2, 3] (.tp [(.sl 2), (.sl 3)]) tYesM (m2 mulD (mVar 2) (mVar 3)))) mNil)))
noncomputable def m__law_amount : List D → FR D := runF 4 b__law_amount
theorem bd__law_amount (T : Tx K mg) : Binds K T.fd19 ["_law_form", "_law_spot"] [] := T.f19.bindsN fun _ _ _ _ _ _ us hl => match us, hl with | [_, _], _ => rfl
theorem ok__law_amount (T : Tx K mg) : FnOk P w K mg base (L2.CX P w) 1 T.a19 T.fd19 ["_law_form", "_law_spot"] (PSp K 2 m__law_amount) := by
  refine fn_val (N := ["_law_form", "_law_spot", "_law_one", "_law_other"]) T.f19 sc__law_amount rfl fun cdv A outer s H E hr => ?_
  have tk := takes_of (X := cxOf (L2.CX P w) P w K mg base ["_law_form", "_law_spot", "_law_one", "_law_other"] "_law_amount" (defScope s__law_amount) T.a19 cdv A outer s H E) (E := E) rfl rfl rfl rfl
  have hp := passes_of (X := cxOf (L2.CX P w) P w K mg base ["_law_form", "_law_spot", "_law_one", "_law_other"] "_law_amount" (defScope s__law_amount) T.a19 cdv A outer s H E) rfl
  have hu := hr.units
  exact (AB.one (AS.ret (AE.blt (CA.sum rfl) (by rfl) T.n_sum (by decide +kernel) (AA.cons (AE.ofN (AN.lc (own := [("_law_one", 2), ("_law_other", 3)]) (t := (.tp [(.sl 2), (.sl 3)])) rfl sc__law_amount.nd (AI.zip (by rfl) T.n_zip (AA.cons (AE.var (pv 0)) (AA.cons (AE.var (pv 1)) AA.nil))) (blkOk_by (N := ["_law_form", "_law_spot", "_law_one", "_law_other"]) (sc := defScope s__law_amount) (by decide +kernel)) (by decide) (fun _ _ _ _ _ => (AG.tup rfl (AGs.cons (AG.name sc__law_amount.nd rfl (.inl rfl)) (AGs.cons (AG.name sc__law_amount.nd rfl (.inl rfl)) AGs.nil)))) (fun _ _ _ _ _ => ATs.nil) (fun _ _ _ _ _ => (AE.bin OA.mul (AE.var (pv 2)) (AE.var (pv 3)))))) AA.nil))))
/-! _law_size -/
abbrev s__law_size : Stmt := topS 20
theorem sc__law_size : FnScope ["_law_bowl_here", "_law_lot", "_law_most"] ["_law_bowl_here"] (defScope s__law_size) := ⟨rfl, rfl, rfl, by decide +kernel, rfl, by decide +kernel, by decide +kernel⟩
noncomputable def b__law_size : M Fl :=
  (xSeq (xPut (.sl 1) (mIo m__law_bit 1 0 (mCons (mC (.int 6)) mNil)))
  (xSeq (xPut (.sl 2) (m2 ixD (mL lstD (mCons (mC (.int 1)) (mCons (mC (.int 2)) (mCons (mC (.int 12)) (mCons (mC (.int 1000)) (mCons (m2 powD (mC (.int 10)) (mC (.int 19))) (mCons (m2 powD (mC (.int 10)) (mC (.int 60))) mNil))))))) (mVar 1)))
  (xRet (m2 subD (mIo m__law_bit 1 0 (mCons (m2 addD (m2 mulD (mC (.int 2)) (mVar 2)) (mC (.int 1))) mNil)) (mVar 2)))))
noncomputable def m__law_size : SV → List D → IR := runI 3 b__law_size
theorem bd__law_size (T : Tx K mg) : Binds K T.fd20 ["_law_bowl_here"] [] := T.f20.bindsN fun _ _ _ _ _ _ us hl => match us, hl with | [_], _ => rfl
theorem ok__law_size (T : Tx K mg) : FnOk P w K mg base (L2.CX P w) 2 T.a20 T.fd20 ["_law_bowl_here"] (ISp K 0 m__law_size) := by
  refine fn_io (N := ["_law_bowl_here", "_law_lot", "_law_most"]) T.f20 sc__law_size rfl fun cdv A outer s H E hr => ?_
  have tk := takes_of (X := cxOf (L2.CX P w) P w K mg base ["_law_bowl_here", "_law_lot", "_law_most"] "_law_size" (defScope s__law_size) T.a20 cdv A outer s H E) (E := E) rfl rfl rfl rfl
  have hp := passes_of (X := cxOf (L2.CX P w) P w K mg base ["_law_bowl_here", "_law_lot", "_law_most"] "_law_size" (defScope s__law_size) T.a20 cdv A outer s H E) rfl
  have hu := hr.units
  exact (AB.cons (AS.set sc__law_size.nd rfl (.inl rfl) (AE.callIo (ok__law_bit T) (hr.mono (by decide)) (by rfl) T.g18 T.f18.kp (bd__law_bit T) tk (pv 0) (AA.cons AE.int AA.nil)))
    (AB.cons (AS.set sc__law_size.nd rfl (.inl rfl) (AE.ix (AE.lst (AA.cons AE.int (AA.cons AE.int (AA.cons AE.int (AA.cons AE.int (AA.cons (AE.bin OA.pow AE.int AE.int) (AA.cons (AE.bin OA.pow AE.int AE.int) AA.nil))))))) (AE.var (pv 1))))
    (AB.one (AS.ret (AE.bin OA.sub (AE.callIo (ok__law_bit T) (hr.mono (by decide)) (by rfl) T.g18 T.f18.kp (bd__law_bit T) tk (pv 0) (AA.cons (AE.bin OA.add (AE.bin OA.mul AE.int (AE.var (pv 2))) AE.int) AA.nil)) (AE.var (pv 2)))))))
/-! _law_right -/
abbrev s__law_right : Stmt := topS 21
theorem sc__law_right : FnScope ["_law_bowl_here", "_law_size_here", "_law_told", "_law_due", "_law_one", "_law_other", "_law_spot", "_law_number", "_law_both", "_law_more", "_law_at", "_law_part"] ["_law_bowl_here"] (defScope s__law_right) := ⟨rfl, rfl, rfl, by decide +kernel, rfl, by decide +kernel, by decide +kernel⟩
noncomputable def b__law_right : M Fl :=
  (xSeq (xPut (.sl 1) (m2 addD (mC (.int 1)) (mIo m__law_bit 1 0 (mCons (mC (.int 4)) mNil))))
  (xSeq (xPut (.tp [(.sl 4), (.sl 5)]) (mL tupD (mCons (mL tupleD (mCons (mOfN (mLc (mItL range1D (mCons (mVar 1) mNil)) [10] (.sl 10) tYesM (mIo m__law_size 0 0 mNil))) mNil)) (mCons (mL tupleD (mCons (mOfN (mLc (mItL range1D (mCons (mVar 1) mNil)) [10] (.sl 10) tYesM (mIo m__law_size 0 0 mNil))) mNil)) mNil))))
  (xSeq (xPut (.tp [(.sl 6), (.sl 7)]) (mL tupD (mCons (mL tupleD (mCons (mOfN (mLc (mItL range1D (mCons (mVar 1) mNil)) [10] (.sl 10) tYesM (mIo m__law_size 0 0 mNil))) mNil)) (mCons (mIo m__law_size 0 0 mNil) mNil))))
  (xSeq (xPar 8 9 (mCons (mCall m_added 2 [] (mCons (mVar 4) (mCons (mVar 5) mNil))) (mCons (mCall m_scaled 2 [] (mCons (mVar 4) (mCons (mVar 7) mNil))) mNil)))
  (xSeq (xIf (tOr (tOf (m2 neD (mVar 8) (mL tupleD (mCons (mOfN (mLc (mItL range1D (mCons (mVar 1) mNil)) [10] (.sl 10) tYesM (m2 addD (m2 ixD (mVar 4) (mVar 10)) (m2 ixD (mVar 5) (mVar 10))))) mNil)))) (tOf (m2 neD (mCall m_added 2 [] (mCons (mVar 5) (mCons (mVar 4) mNil))) (mVar 8)))) (xRet (mC (.bl false))) xNx)
  (xSeq (xIf (tOr (tOf (m2 neD (mVar 9) (mL tupleD (mCons (mOfN (mLc (mWalk (mVar 4)) [11] (.sl 11) tYesM (m2 mulD (mVar 7) (mVar 11)))) mNil)))) (tOr (tOf (m2 neD (mCall m_scaled 2 [] (mCons (mVar 4) (mCons (mC (.int 1)) mNil))) (mVar 4))) (tOf (m2 neD (mCall m_scaled 2 [] (mCons (mVar 4) (mCons (mC (.int 0)) mNil))) (m2 mulD (mL tupD (mCons (mC (.int 0)) mNil)) (mVar 1)))))) (xRet (mC (.bl false))) xNx)
  (xSeq (xPut (.sl 2) (mL lstD (mCons (mCall m_value_of 2 [] (mCons (mVar 4) (mCons (mVar 6) mNil))) (mCons (mCall m_value_of 2 [] (mCons (mVar 5) (mCons (mVar 6) mNil))) (mCons (mCall m_value_of 2 [] (mCons (mVar 6) (mCons (mVar 4) mNil))) mNil)))))
  (xSeq (xPut (.sl 3) (mL lstD (mCons (mCall m__law_amount 2 [] (mCons (mVar 4) (mCons (mVar 6) mNil))) (mCons (mCall m__law_amount 2 [] (mCons (mVar 5) (mCons (mVar 6) mNil))) (mCons (mCall m__law_amount 2 [] (mCons (mVar 4) (mCons (mVar 6) mNil))) mNil)))))
  (xSeq (xIf (tOr (tOf (m2 neD (mVar 2) (mVar 3))) (tOr (tOf (m2 neD (mCall m_value_of 2 [] (mCons (mVar 4) (mCons (mVar 6) mNil))) (m2 ixD (mVar 3) (mC (.int 0))))) (tOf (m2 neD (mCall m_value_of 2 [] (mCons (mVar 6) (mCons (mVar 4) mNil))) (m2 ixD (mVar 3) (mC (.int 0))))))) (xRet (mC (.bl false))) xNx)
  (xSeq (xIf (tOr (tOf (m2 neD (mCall m_value_of 2 [] (mCons (mVar 8) (mCons (mVar 6) mNil))) (m2 addD (m2 ixD (mVar 3) (mC (.int 0))) (m2 ixD (mVar 3) (mC (.int 1)))))) (tOf (m2 neD (mCall m_value_of 2 [] (mCons (mVar 9) (mCons (mVar 6) mNil))) (m2 mulD (mVar 7) (m2 ixD (mVar 3) (mC (.int 0))))))) (xRet (mC (.bl false))) xNx)
  (xRet (m2 eqD (mCall m_value_of 2 [] (mCons (mVar 6) (mCons (mVar 8) mNil))) (m2 addD (m2 ixD (mVar 3) (mC (.int 0))) (m2 ixD (mVar 3) (mC (.int 1))))))))))))))))
noncomputable def m__law_right : SV → List D → IR := runI 12 b__law_right
theorem bd__law_right (T : Tx K mg) : Binds K T.fd21 ["_law_bowl_here"] [] := T.f21.bindsN fun _ _ _ _ _ _ us hl => match us, hl with | [_], _ => rfl
theorem ok__law_right (T : Tx K mg) : FnOk P w K mg base (L2.CX P w) 5 T.a21 T.fd21 ["_law_bowl_here"] (ISp K 0 m__law_right) := by
  refine fn_io (N := ["_law_bowl_here", "_law_size_here", "_law_told", "_law_due", "_law_one", "_law_other", "_law_spot", "_law_number", "_law_both", "_law_more", "_law_at", "_law_part"]) T.f21 sc__law_right rfl fun cdv A outer s H E hr => ?_
  have tk := takes_of (X := cxOf (L2.CX P w) P w K mg base ["_law_bowl_here", "_law_size_here", "_law_told", "_law_due", "_law_one", "_law_other", "_law_spot", "_law_number", "_law_both", "_law_more", "_law_at", "_law_part"] "_law_right" (defScope s__law_right) T.a21 cdv A outer s H E) (E := E) rfl rfl rfl rfl
  have hp := passes_of (X := cxOf (L2.CX P w) P w K mg base ["_law_bowl_here", "_law_size_here", "_law_told", "_law_due", "_law_one", "_law_other", "_law_spot", "_law_number", "_law_both", "_law_more", "_law_at", "_law_part"] "_law_right" (defScope s__law_right) T.a21 cdv A outer s H E) rfl
  have hu := hr.units
  exact (AB.cons (AS.set sc__law_right.nd rfl (.inl rfl) (AE.bin OA.add AE.int (AE.callIo (ok__law_bit T) (hr.mono (by decide)) (by rfl) T.g18 T.f18.kp (bd__law_bit T) tk (pv 0) (AA.cons AE.int AA.nil))))
    (AB.cons (AS.asg (AE.tup (AA.cons (AE.bty CA.tuple (by rfl) T.n_tuple (by decide +kernel) (AA.cons (AE.ofN (AN.lc (own := [("_law_at", 10)]) (t := (.sl 10)) rfl sc__law_right.nd (AI.range1 (by rfl) T.n_range (AA.cons (AE.var (pv 1)) AA.nil)) (blkOk_by (N := ["_law_bowl_here", "_law_size_here", "_law_told", "_law_due", "_law_one", "_law_other", "_law_spot", "_law_number", "_law_both", "_law_more", "_law_at", "_law_part"]) (sc := defScope s__law_right) (by decide +kernel)) (by decide) (fun _ _ _ _ _ => (AG.name sc__law_right.nd rfl (.inl rfl))) (fun _ _ _ _ _ => ATs.nil) (fun _ _ _ _ _ => (AE.callIo (ok__law_size T) (hr.mono (by decide)) (by rfl) T.g20 T.f20.kp (bd__law_size T) takes0 (pv 0) AA.nil)))) AA.nil)) (AA.cons (AE.bty CA.tuple (by rfl) T.n_tuple (by decide +kernel) (AA.cons (AE.ofN (AN.lc (own := [("_law_at", 10)]) (t := (.sl 10)) rfl sc__law_right.nd (AI.range1 (by rfl) T.n_range (AA.cons (AE.var (pv 1)) AA.nil)) (blkOk_by (N := ["_law_bowl_here", "_law_size_here", "_law_told", "_law_due", "_law_one", "_law_other", "_law_spot", "_law_number", "_law_both", "_law_more", "_law_at", "_law_part"]) (sc := defScope s__law_right) (by decide +kernel)) (by decide) (fun _ _ _ _ _ => (AG.name sc__law_right.nd rfl (.inl rfl))) (fun _ _ _ _ _ => ATs.nil) (fun _ _ _ _ _ => (AE.callIo (ok__law_size T) (hr.mono (by decide)) (by rfl) T.g20 T.f20.kp (bd__law_size T) takes0 (pv 0) AA.nil)))) AA.nil)) AA.nil))) (AG.tup rfl (AGs.cons (AG.name sc__law_right.nd rfl (.inr rfl)) (AGs.cons (AG.name sc__law_right.nd rfl (.inr rfl)) AGs.nil))))
    (AB.cons (AS.asg (AE.tup (AA.cons (AE.bty CA.tuple (by rfl) T.n_tuple (by decide +kernel) (AA.cons (AE.ofN (AN.lc (own := [("_law_at", 10)]) (t := (.sl 10)) rfl sc__law_right.nd (AI.range1 (by rfl) T.n_range (AA.cons (AE.var (pv 1)) AA.nil)) (blkOk_by (N := ["_law_bowl_here", "_law_size_here", "_law_told", "_law_due", "_law_one", "_law_other", "_law_spot", "_law_number", "_law_both", "_law_more", "_law_at", "_law_part"]) (sc := defScope s__law_right) (by decide +kernel)) (by decide) (fun _ _ _ _ _ => (AG.name sc__law_right.nd rfl (.inl rfl))) (fun _ _ _ _ _ => ATs.nil) (fun _ _ _ _ _ => (AE.callIo (ok__law_size T) (hr.mono (by decide)) (by rfl) T.g20 T.f20.kp (bd__law_size T) takes0 (pv 0) AA.nil)))) AA.nil)) (AA.cons (AE.callIo (ok__law_size T) (hr.mono (by decide)) (by rfl) T.g20 T.f20.kp (bd__law_size T) tk (pv 0) AA.nil) AA.nil))) (AG.tup rfl (AGs.cons (AG.name sc__law_right.nd rfl (.inl rfl)) (AGs.cons (AG.name sc__law_right.nd rfl (.inr rfl)) AGs.nil))))
    (AB.cons (AS.par rfl sc__law_right.nd rfl rfl (by decide) rfl rfl (AA.cons (AE.call (ok_added T) (hr.mono (by decide)) (by rfl) T.g14 T.f14.kp (bd_added T) .nil (fun _ _ => .nil) tk (AA.cons (AE.var (pv 4)) (AA.cons (AE.var (pv 5)) AA.nil))) (AA.cons (AE.call (ok_scaled T) (hr.mono (by decide)) (by rfl) T.g15 T.f15.kp (bd_scaled T) .nil (fun _ _ => .nil) tk (AA.cons (AE.var (pv 4)) (AA.cons (AE.var (pv 7)) AA.nil))) AA.nil)))
    (AB.cons (AS.if_ (AW.pt (AW.or (AT.cmp (OA.ne hu) (AE.var (pv 8)) (AE.bty CA.tuple (by rfl) T.n_tuple (by decide +kernel) (AA.cons (AE.ofN (AN.lc (own := [("_law_at", 10)]) (t := (.sl 10)) rfl sc__law_right.nd (AI.range1 (by rfl) T.n_range (AA.cons (AE.var (pv 1)) AA.nil)) (blkOk_by (N := ["_law_bowl_here", "_law_size_here", "_law_told", "_law_due", "_law_one", "_law_other", "_law_spot", "_law_number", "_law_both", "_law_more", "_law_at", "_law_part"]) (sc := defScope s__law_right) (by decide +kernel)) (by decide) (fun _ _ _ _ _ => (AG.name sc__law_right.nd rfl (.inl rfl))) (fun _ _ _ _ _ => ATs.nil) (fun _ _ _ _ _ => (AE.bin OA.add (AE.ix (AE.var (pv 4)) (AE.var (pv 10))) (AE.ix (AE.var (pv 5)) (AE.var (pv 10))))))) AA.nil)) (nomark _)) (AW.or1 (AT.cmp (OA.ne hu) (AE.call (ok_added T) (hr.mono (by decide)) (by rfl) T.g14 T.f14.kp (bd_added T) .nil (fun _ _ => .nil) tk (AA.cons (AE.var (pv 5)) (AA.cons (AE.var (pv 4)) AA.nil))) (AE.var (pv 8)) (nomark _))))) (AB.one (AS.ret AE.bl)) AB.nil)
    (AB.cons (AS.if_ (AW.pt (AW.or (AT.cmp (OA.ne hu) (AE.var (pv 9)) (AE.bty CA.tuple (by rfl) T.n_tuple (by decide +kernel) (AA.cons (AE.ofN (AN.lc (own := [("_law_part", 11)]) (t := (.sl 11)) rfl sc__law_right.nd (AI.any (AE.var (pv 4))) (blkOk_by (N := ["_law_bowl_here", "_law_size_here", "_law_told", "_law_due", "_law_one", "_law_other", "_law_spot", "_law_number", "_law_both", "_law_more", "_law_at", "_law_part"]) (sc := defScope s__law_right) (by decide +kernel)) (by decide) (fun _ _ _ _ _ => (AG.name sc__law_right.nd rfl (.inl rfl))) (fun _ _ _ _ _ => ATs.nil) (fun _ _ _ _ _ => (AE.bin OA.mul (AE.var (pv 7)) (AE.var (pv 11)))))) AA.nil)) (nomark _)) (AW.or (AT.cmp (OA.ne hu) (AE.call (ok_scaled T) (hr.mono (by decide)) (by rfl) T.g15 T.f15.kp (bd_scaled T) .nil (fun _ _ => .nil) tk (AA.cons (AE.var (pv 4)) (AA.cons AE.int AA.nil))) (AE.var (pv 4)) (nomark _)) (AW.or1 (AT.cmp (OA.ne hu) (AE.call (ok_scaled T) (hr.mono (by decide)) (by rfl) T.g15 T.f15.kp (bd_scaled T) .nil (fun _ _ => .nil) tk (AA.cons (AE.var (pv 4)) (AA.cons AE.int AA.nil))) (AE.bin OA.mul (AE.tup (AA.cons AE.int AA.nil)) (AE.var (pv 1))) (nomark _)))))) (AB.one (AS.ret AE.bl)) AB.nil)
    (AB.cons (AS.set sc__law_right.nd rfl (.inl rfl) (AE.lst (AA.cons (AE.call (ok_value_of T) (hr.mono (by decide)) (by rfl) T.g13 T.f13.kp (bd_value_of T) .nil (fun _ _ => .nil) tk (AA.cons (AE.var (pv 4)) (AA.cons (AE.var (pv 6)) AA.nil))) (AA.cons (AE.call (ok_value_of T) (hr.mono (by decide)) (by rfl) T.g13 T.f13.kp (bd_value_of T) .nil (fun _ _ => .nil) tk (AA.cons (AE.var (pv 5)) (AA.cons (AE.var (pv 6)) AA.nil))) (AA.cons (AE.call (ok_value_of T) (hr.mono (by decide)) (by rfl) T.g13 T.f13.kp (bd_value_of T) .nil (fun _ _ => .nil) tk (AA.cons (AE.var (pv 6)) (AA.cons (AE.var (pv 4)) AA.nil))) AA.nil)))))
    (AB.cons (AS.set sc__law_right.nd rfl (.inl rfl) (AE.lst (AA.cons (AE.call (ok__law_amount T) (hr.mono (by decide)) (by rfl) T.g19 T.f19.kp (bd__law_amount T) .nil (fun _ _ => .nil) tk (AA.cons (AE.var (pv 4)) (AA.cons (AE.var (pv 6)) AA.nil))) (AA.cons (AE.call (ok__law_amount T) (hr.mono (by decide)) (by rfl) T.g19 T.f19.kp (bd__law_amount T) .nil (fun _ _ => .nil) tk (AA.cons (AE.var (pv 5)) (AA.cons (AE.var (pv 6)) AA.nil))) (AA.cons (AE.call (ok__law_amount T) (hr.mono (by decide)) (by rfl) T.g19 T.f19.kp (bd__law_amount T) .nil (fun _ _ => .nil) tk (AA.cons (AE.var (pv 4)) (AA.cons (AE.var (pv 6)) AA.nil))) AA.nil)))))
    (AB.cons (AS.if_ (AW.pt (AW.or (AT.cmp (OA.ne hu) (AE.var (pv 2)) (AE.var (pv 3)) (nomark _)) (AW.or (AT.cmp (OA.ne hu) (AE.call (ok_value_of T) (hr.mono (by decide)) (by rfl) T.g13 T.f13.kp (bd_value_of T) .nil (fun _ _ => .nil) tk (AA.cons (AE.var (pv 4)) (AA.cons (AE.var (pv 6)) AA.nil))) (AE.ix (AE.var (pv 3)) AE.int) (nomark _)) (AW.or1 (AT.cmp (OA.ne hu) (AE.call (ok_value_of T) (hr.mono (by decide)) (by rfl) T.g13 T.f13.kp (bd_value_of T) .nil (fun _ _ => .nil) tk (AA.cons (AE.var (pv 6)) (AA.cons (AE.var (pv 4)) AA.nil))) (AE.ix (AE.var (pv 3)) AE.int) (nomark _)))))) (AB.one (AS.ret AE.bl)) AB.nil)
    (AB.cons (AS.if_ (AW.pt (AW.or (AT.cmp (OA.ne hu) (AE.call (ok_value_of T) (hr.mono (by decide)) (by rfl) T.g13 T.f13.kp (bd_value_of T) .nil (fun _ _ => .nil) tk (AA.cons (AE.var (pv 8)) (AA.cons (AE.var (pv 6)) AA.nil))) (AE.bin OA.add (AE.ix (AE.var (pv 3)) AE.int) (AE.ix (AE.var (pv 3)) AE.int)) (nomark _)) (AW.or1 (AT.cmp (OA.ne hu) (AE.call (ok_value_of T) (hr.mono (by decide)) (by rfl) T.g13 T.f13.kp (bd_value_of T) .nil (fun _ _ => .nil) tk (AA.cons (AE.var (pv 9)) (AA.cons (AE.var (pv 6)) AA.nil))) (AE.bin OA.mul (AE.var (pv 7)) (AE.ix (AE.var (pv 3)) AE.int)) (nomark _))))) (AB.one (AS.ret AE.bl)) AB.nil)
    (AB.one (AS.ret (AE.cmp (OA.eq hu) (AE.call (ok_value_of T) (hr.mono (by decide)) (by rfl) T.g13 T.f13.kp (bd_value_of T) .nil (fun _ _ => .nil) tk (AA.cons (AE.var (pv 6)) (AA.cons (AE.var (pv 8)) AA.nil))) (AE.bin OA.add (AE.ix (AE.var (pv 3)) AE.int) (AE.ix (AE.var (pv 3)) AE.int)) (nomark _))))))))))))))
/-! law -/
abbrev s_law : Stmt := topS 22
theorem sc_law : FnScope ["_law_script", "_law_at", "_law_told", "_law_bowl_here", "_law_turn"] ["_law_script"] (defScope s_law) := ⟨rfl, rfl, rfl, by decide +kernel, rfl, by decide +kernel, by decide +kernel⟩
noncomputable def b_law : M Fl :=
  (xSeq (xFor (mItL range1D (mCons (mL max2D (mCons (mC (.int 1)) (mCons (mL min2D (mCons (mC (.int 8)) (mCons (mL lenD (mCons (mVar 0) mNil)) mNil))) mNil))) mNil)) (.sl 1) (xSeq (xOwn 3 (mCallN m__law_bowl 2 (mCons (mVar 0) (mCons (mVar 1) mNil))))
  (xFor (mItL range1D (mCons (mC (.int 8)) mNil)) (.sl 4) (xIf (tNot (tOf (mIo m__law_right 0 3 mNil))) (xRet (mC (.bl false))) xNx))))
  (xSeq (xPut (.sl 2) (mL lstD (mCons (mCall m_value_of 2 [] (mCons (mL tupD (mCons (mC (.int 3)) (mCons (mC (.int 2)) (mCons (m1 negD (mC (.int 1))) mNil)))) (mCons (mL tupD (mCons (mC (.int 1)) (mCons (mC (.int 5)) (mCons (mC (.int 4)) mNil)))) mNil))) (mCons (mCall m_value_of 2 [] (mCons (mL tupD (mCons (mC (.int 0)) mNil)) (mCons (mL tupD (mCons (mC (.int 7)) mNil)) mNil))) (mCons (mCall m_added 2 [] (mCons (mL tupD (mCons (mC (.int 1)) (mCons (mC (.int 2)) mNil))) (mCons (mL tupD (mCons (m1 negD (mC (.int 1))) (mCons (m1 negD (mC (.int 2))) mNil))) mNil))) (mCons (mCall m_scaled 2 [] (mCons (mL tupD (mCons (mC (.int 0)) (mCons (m1 negD (mC (.int 3))) mNil))) (mCons (m1 negD (mC (.int 2))) mNil))) mNil))))))
  (xRet (m2 eqD (mVar 2) (mL lstD (mCons (mC (.int 9)) (mCons (mC (.int 0)) (mCons (mL tupD (mCons (mC (.int 0)) (mCons (mC (.int 0)) mNil))) (mCons (mL tupD (mCons (mC (.int 0)) (mCons (mC (.int 6)) mNil))) mNil)))))))))
noncomputable def m_law : List D → FR D := runF 5 b_law
theorem bd_law (T : Tx K mg) : Binds K T.fd22 ["_law_script"] [] := T.f22.bindsN fun _ _ _ _ _ _ us hl => match us, hl with | [_], _ => rfl
theorem ok_law (T : Tx K mg) : FnOk P w K mg base (L2.CX P w) 6 T.a22 T.fd22 ["_law_script"] (PSp K 1 m_law) := by
  refine fn_val (N := ["_law_script", "_law_at", "_law_told", "_law_bowl_here", "_law_turn"]) T.f22 sc_law rfl fun cdv A outer s H E hr => ?_
  have tk := takes_of (X := cxOf (L2.CX P w) P w K mg base ["_law_script", "_law_at", "_law_told", "_law_bowl_here", "_law_turn"] "law" (defScope s_law) T.a22 cdv A outer s H E) (E := E) rfl rfl rfl rfl
  have hp := passes_of (X := cxOf (L2.CX P w) P w K mg base ["_law_script", "_law_at", "_law_told", "_law_bowl_here", "_law_turn"] "law" (defScope s_law) T.a22 cdv A outer s H E) rfl
  have hu := hr.units
  exact (AB.cons (AS.for_ hp rfl (AI.range1 (by rfl) T.n_range (AA.cons (AE.blt (CA.max2 rfl) (by rfl) T.n_max (by decide +kernel) (AA.cons AE.int (AA.cons (AE.blt (CA.min2 rfl) (by rfl) T.n_min (by decide +kernel) (AA.cons AE.int (AA.cons (AE.blt CA.len (by rfl) T.n_len PySem.boot_len (AA.cons (AE.var (pv 0)) AA.nil)) AA.nil))) AA.nil))) AA.nil)) (AG.name sc_law.nd rfl (.inl rfl)) (AB.cons (AS.own sc_law.nd rfl (.inl rfl) (AN.call (ok__law_bowl T) (hr.mono (by decide)) (by rfl) T.g17 T.f17.kp (bd__law_bowl T) tk (AA.cons (AE.var (pv 0)) (AA.cons (AE.var (pv 1)) AA.nil))))
    (AB.one (AS.for_ hp rfl (AI.range1 (by rfl) T.n_range (AA.cons AE.int AA.nil)) (AG.name sc_law.nd rfl (.inl rfl)) (AB.one (AS.if_ (AT.not (AT.val (AE.callIo (ok__law_right T) (hr.mono (by decide)) (by rfl) T.g21 T.f21.kp (bd__law_right T) tk (pv 3) AA.nil))) (AB.one (AS.ret AE.bl)) AB.nil))))))
    (AB.cons (AS.set sc_law.nd rfl (.inl rfl) (AE.lst (AA.cons (AE.call (ok_value_of T) (hr.mono (by decide)) (by rfl) T.g13 T.f13.kp (bd_value_of T) .nil (fun _ _ => .nil) tk (AA.cons (AE.tup (AA.cons AE.int (AA.cons AE.int (AA.cons (AE.un UA.neg AE.int) AA.nil)))) (AA.cons (AE.tup (AA.cons AE.int (AA.cons AE.int (AA.cons AE.int AA.nil)))) AA.nil))) (AA.cons (AE.call (ok_value_of T) (hr.mono (by decide)) (by rfl) T.g13 T.f13.kp (bd_value_of T) .nil (fun _ _ => .nil) tk (AA.cons (AE.tup (AA.cons AE.int AA.nil)) (AA.cons (AE.tup (AA.cons AE.int AA.nil)) AA.nil))) (AA.cons (AE.call (ok_added T) (hr.mono (by decide)) (by rfl) T.g14 T.f14.kp (bd_added T) .nil (fun _ _ => .nil) tk (AA.cons (AE.tup (AA.cons AE.int (AA.cons AE.int AA.nil))) (AA.cons (AE.tup (AA.cons (AE.un UA.neg AE.int) (AA.cons (AE.un UA.neg AE.int) AA.nil))) AA.nil))) (AA.cons (AE.call (ok_scaled T) (hr.mono (by decide)) (by rfl) T.g15 T.f15.kp (bd_scaled T) .nil (fun _ _ => .nil) tk (AA.cons (AE.tup (AA.cons AE.int (AA.cons (AE.un UA.neg AE.int) AA.nil))) (AA.cons (AE.un UA.neg AE.int) AA.nil))) AA.nil))))))
    (AB.one (AS.ret (AE.cmp (OA.eq hu) (AE.var (pv 2)) (AE.lst (AA.cons AE.int (AA.cons AE.int (AA.cons (AE.tup (AA.cons AE.int (AA.cons AE.int AA.nil))) (AA.cons (AE.tup (AA.cons AE.int (AA.cons AE.int AA.nil))) AA.nil))))) (nomark _))))))
end
/-! the head -/
def fn : List He.DefD := [
  ⟨("is_integer", none), "is_integer", "is_integer", defArgs (topS 3), defBody (topS 3), defScope (topS 3), [], []⟩,
  ⟨("is_row", none), "is_row", "is_row", defArgs (topS 4), defBody (topS 4), defScope (topS 4), [], []⟩,
  ⟨("require_row", none), "require_row", "require_row", defArgs (topS 11), defBody (topS 11), defScope (topS 11), [.non], []⟩,
  ⟨("value_by", none), "value_by", "value_by", defArgs (topS 12), defBody (topS 12), defScope (topS 12), [], []⟩,
  ⟨("value_of", none), "value_of", "value_of", defArgs (topS 13), defBody (topS 13), defScope (topS 13), [], []⟩,
  ⟨("added", none), "added", "added", defArgs (topS 14), defBody (topS 14), defScope (topS 14), [], []⟩,
  ⟨("scaled", none), "scaled", "scaled", defArgs (topS 15), defBody (topS 15), defScope (topS 15), [], []⟩,
  ⟨("_law_bowl", none), "_law_bowl", "_law_bowl", defArgs (topS 17), defBody (topS 17), defScope (topS 17), [], []⟩,
  ⟨("_law_bit", none), "_law_bit", "_law_bit", defArgs (topS 18), defBody (topS 18), defScope (topS 18), [], []⟩,
  ⟨("_law_amount", none), "_law_amount", "_law_amount", defArgs (topS 19), defBody (topS 19), defScope (topS 19), [], []⟩,
  ⟨("_law_size", none), "_law_size", "_law_size", defArgs (topS 20), defBody (topS 20), defScope (topS 20), [], []⟩,
  ⟨("_law_right", none), "_law_right", "_law_right", defArgs (topS 21), defBody (topS 21), defScope (topS 21), [], []⟩,
  ⟨("law", none), "law", "law", defArgs (topS 22), defBody (topS 22), defScope (topS 22), [], []⟩]
def fa : List He.Fa := [.glo "is_integer", .glo "is_row", .glo "require_row", .glo "value_by", .glo "value_of", .glo "added", .glo "scaled", .glo "_law_bowl", .glo "_law_bit", .glo "_law_amount", .glo "_law_size", .glo "_law_right", .glo "law", .int "WIDEST" c_WIDEST, .int "GREATEST" c_GREATEST, .free "abs", .free "all", .free "bool", .free "int", .free "isinstance", .free "len", .free "max", .free "min", .free "range", .free "sum", .free "tuple", .free "zip"]
def loose0 : List Str := ["WIDEST", "GREATEST", "is_integer", "is_row", "LoopError", "InvalidForm", "InvalidOperation", "InvalidNumber", "require_row", "value_by", "value_of", "added", "scaled", "_law_bowl", "_law_bit", "_law_amount", "_law_size", "_law_right"]
def loose : List Str := loose0
abbrev RR : PySem.W.OpenRow := PySem.W.OpenLaw.row PySem.Challenge.rw_staystarts_k07_values_sums_and_multiples
abbrev hk : PySem.W.Hook := He.hookD 4 fa fn
def ob (s : PySem.W.SharedT) : He.AlD := He.obsDG 4 fa fn (HandSHeadRun.getT s)
theorem ob_eq (s : PySem.W.SharedT) : ob s = hk.obs s.abs := He.obsDG_eq (HandSHeadRun.getT_eq s)
theorem run (w : World) : HandSHeadRun.RunEq RR (PySem.W.view RR.prog [22]) hk ob 4000 loose w := by
  intro os
  kernel_rfl
theorem tx {K : PySem.W.Frag} {h : Heap} {mg : Str → Option Value} (X : K.In h) (G : h.Ns mainGlobals mg) (c : He.SaysD fa fn K) : ∃ T : Tx K mg, T.a22 = He.ga K "law" := by
  obtain ⟨fd3, F3⟩ := c.def_ 0 rfl
  obtain ⟨fd4, F4⟩ := c.def_ 1 rfl
  obtain ⟨fd11, F11⟩ := c.def_ 2 rfl
  obtain ⟨fd12, F12⟩ := c.def_ 3 rfl
  obtain ⟨fd13, F13⟩ := c.def_ 4 rfl
  obtain ⟨fd14, F14⟩ := c.def_ 5 rfl
  obtain ⟨fd15, F15⟩ := c.def_ 6 rfl
  obtain ⟨fd17, F17⟩ := c.def_ 7 rfl
  obtain ⟨fd18, F18⟩ := c.def_ 8 rfl
  obtain ⟨fd19, F19⟩ := c.def_ 9 rfl
  obtain ⟨fd20, F20⟩ := c.def_ 10 rfl
  obtain ⟨fd21, F21⟩ := c.def_ 11 rfl
  obtain ⟨fd22, F22⟩ := c.def_ 12 rfl
  obtain ⟨t1, C1⟩ := He.int_ok X G (c.fact 13 rfl)
  obtain ⟨t2, C2⟩ := He.int_ok X G (c.fact 14 rfl)
  exact ⟨⟨_, fd3, F3, He.glo_ok X G (c.fact 0 rfl),
    _, fd4, F4, He.glo_ok X G (c.fact 1 rfl),
    _, fd11, F11, He.glo_ok X G (c.fact 2 rfl),
    _, fd12, F12, He.glo_ok X G (c.fact 3 rfl),
    _, fd13, F13, He.glo_ok X G (c.fact 4 rfl),
    _, fd14, F14, He.glo_ok X G (c.fact 5 rfl),
    _, fd15, F15, He.glo_ok X G (c.fact 6 rfl),
    _, fd17, F17, He.glo_ok X G (c.fact 7 rfl),
    _, fd18, F18, He.glo_ok X G (c.fact 8 rfl),
    _, fd19, F19, He.glo_ok X G (c.fact 9 rfl),
    _, fd20, F20, He.glo_ok X G (c.fact 10 rfl),
    _, fd21, F21, He.glo_ok X G (c.fact 11 rfl),
    _, fd22, F22, He.glo_ok X G (c.fact 12 rfl),
    t1, C1,
    t2, C2,
    He.free_ok X G (c.fact 15 rfl),
    He.free_ok X G (c.fact 16 rfl),
    He.free_ok X G (c.fact 17 rfl),
    He.free_ok X G (c.fact 18 rfl),
    He.free_ok X G (c.fact 19 rfl),
    He.free_ok X G (c.fact 20 rfl),
    He.free_ok X G (c.fact 21 rfl),
    He.free_ok X G (c.fact 22 rfl),
    He.free_ok X G (c.fact 23 rfl),
    He.free_ok X G (c.fact 24 rfl),
    He.free_ok X G (c.fact 25 rfl),
    He.free_ok X G (c.fact 26 rfl)⟩, rfl⟩
theorem holds (hm : ∀ ns : List Int, ns.length ≤ 63 → (∀ z ∈ ns, Builtin.Int.intBits z ≤ 1048576) → m_law [.frz (ns.map .int)] = .ok (.bl true)) : PySem.Challenge.rw_staystarts_k07_values_sums_and_multiples.Holds := by
  w_on; o_law
  refine HandSHeadRun.head_any (r := RR) (q := PySem.W.view RR.prog [22]) (H := hk) (ob := ob) (M := 4000) (loose := loose) (d := HandSHeadRun.topDef RR.prog 22) (kwd := []) ob_eq
    (by kernel_rfl) (fun s => by kernel_rfl) run (by kernel_rfl) (by kernel_rfl) (by kernel_rfl) (by rfl) (by first | assumption | decide +kernel) (by decide +kernel) ⟨rfl, rfl, rfl, rfl, rfl, by decide +kernel⟩ ?hw ?hc
  case hw => w_witness2
  case hc =>
    refine walk_end (l := PySem.Challenge.rw_staystarts_k07_values_sums_and_multiples) (n := 63) (k := 6) (x := "_law_script") (m := m_law) rfl (by decide) (by kernel_rfl) ⟨rfl, by decide, by decide⟩ (fun w K mg h f X G c hmg0 => ?_) hm
    have hmg : mg ("law" : PySem.Str) = some (.ref f) := by
      have e : (HandSHeadRun.topDef RR.prog 22).name = ("law" : PySem.Str) := by kernel_rfl
      rw [← e]
      exact hmg0
    obtain ⟨T, hT⟩ := tx X G c
    have e : T.a22 = f := by
      have e1 := T.g22.symm.trans hmg
      cases e1
      rfl
    subst e
    have b := FunD.bindsA (ps := ["_law_script"]) T.f22 fun _ _ _ _ _ _ us hl => match us, hl with | [_], _ => rfl
    exact ⟨_, fun s v => b s [v] rfl, fun base => ok_law T⟩
end K07
namespace K07
open PySem PySem.Spec PyProof.Rows L2 Mr
theorem great_big : ((2 ^ 600 : Nat) : Int) ≤ c_GREATEST := by unfold c_GREATEST; decide
theorem e_is_integer {i : Int} (h : Sz 600 i) : m_is_integer [.int i] = .ok (.bl true) := by
  have h1 := h.lt; have h2 := h.gt; have h3 := great_big
  have a1 : -c_GREATEST ≤ i := by omega
  have a2 : i ≤ c_GREATEST := by omega
  unfold m_is_integer b_is_integer runF
  simp [a1, a2]
structure Row (ns : List Int) : Prop where
  ne : ns ≠ []
  le : ns.length ≤ 4
  sz : ∀ x ∈ ns, Sz 600 x
theorem Row.pos {ns : List Int} (h : Row ns) : (1 : Int) ≤ ns.length := by have := List.length_pos_iff.mpr h.ne; omega
theorem Row.le' {ns : List Int} (h : Row ns) : (ns.length : Int) ≤ 4 := by have := h.le; omega
theorem Row.line {ns : List Int} (h : Row ns) : ns.length ≤ sizeLine := Nat.le_trans h.le (by decide)
theorem e_is_row {ns : List Int} (h : Row ns) : m_is_row [.tup (ns.map .int)] = .ok (.bl true) := by
  have hL : lcM [1] (.sl 1) tYesM (mCall m_is_integer 1 [] (mCons (mVar 1) mNil)) (ns.map D.int) [] [SV.val (.tup (ns.map D.int)), .un] = _ :=
    lcM_map D.int ns (fun _ => .bl true) rfl h.line fun x hx => by simp [turnM, e_is_integer (h.sz x hx)]
  unfold m_is_row b_is_row runF
  simp [c_WIDEST, h.pos, h.le', hL]
theorem e_require {ns : List Int} (h : Row ns) : m_require_row [.tup (ns.map .int), .non] = .ok .non := by
  unfold m_require_row b_require_row runF
  simp [e_is_row h]
theorem e_requireW {ns : List Int} {k : Nat} (h : Row ns) (hk : k = ns.length) : m_require_row [.tup (ns.map .int), .int k] = .ok .non := by
  unfold m_require_row b_require_row runF
  subst hk
  simp [e_is_row h]
/-- the inner product -/
def dot (xs ys : List Int) : Int := (xs.zipWith (· * ·) ys).sum
theorem e_value_by {xs ys : List Int} (hx : xs.length ≤ 4) (h : ∀ x ∈ xs, Sz 600 x) (h' : ∀ y ∈ ys, Sz 600 y) : m_value_by [.tup (xs.map .int), .tup (ys.map .int)] = .ok (.int (dot xs ys)) := by
  have hL : lcM [2, 3] (.tp [.sl 2, .sl 3]) tYesM (m2 mulD (mVar 2) (mVar 3)) _ [] [SV.val (.tup (xs.map D.int)), .val (.tup (ys.map D.int)), .un, .un] = _ :=
    lcM_zip xs ys (fun x y => .int (x * y)) rfl (Nat.le_trans hx (by decide)) fun x hx y hy => by
      simp [turnM, op_mulI ((h _ hx).mulOk (h' _ hy) (by decide))]
  unfold m_value_by b_value_by runF
  simp [hL]
  rfl
theorem e_value_of {xs ys : List Int} (h : Row xs) (h' : Row ys) (e : xs.length = ys.length) : m_value_of [.tup (xs.map .int), .tup (ys.map .int)] = .ok (.int (dot xs ys)) := by
  unfold m_value_of b_value_of runF
  simp [e_require h, e_is_row h', e, e_value_by h.le h.sz h'.sz]
theorem e_amount {xs ys : List Int} (hx : xs.length ≤ 4) (h : ∀ x ∈ xs, Sz 600 x) (h' : ∀ y ∈ ys, Sz 600 y) : m__law_amount [.tup (xs.map .int), .tup (ys.map .int)] = .ok (.int (dot xs ys)) := e_value_by hx h h'
theorem e_added {xs ys : List Int} (h : Row xs) (h' : Row ys) (e : xs.length = ys.length) : m_added [.tup (xs.map .int), .tup (ys.map .int)] = .ok (.tup ((xs.zipWith (· + ·) ys).map .int)) := by
  have hL : lcM [2, 3] (.tp [.sl 2, .sl 3]) tYesM (m2 addD (mVar 2) (mVar 3)) _ [] [SV.val (.tup (xs.map D.int)), .val (.tup (ys.map D.int)), .un, .un] = _ :=
    lcM_zip xs ys (fun x y => .int (x + y)) rfl h.line fun x hx y hy => by
      simp [turnM]
  unfold m_added b_added runF
  simp [e_require h, e_requireW h' e, hL, List.map_zipWith]
theorem e_scaled {xs : List Int} {n : Int} (h : Row xs) (hn : Sz 600 n) : m_scaled [.tup (xs.map .int), .int n] = .ok (.tup ((xs.map (n * ·)).map .int)) := by
  have hL : lcM [2] (.sl 2) tYesM (m2 mulD (mVar 1) (mVar 2)) (xs.map D.int) [] [SV.val (.tup (xs.map D.int)), .val (.int n), .un] = _ :=
    lcM_map D.int xs (fun x => .int (n * x)) rfl h.line fun x hx => by simp [turnM, op_mulI (hn.mulOk (h.sz x hx) (by decide))]
  unfold m_scaled b_scaled runF
  simp [e_require h, e_is_integer hn, hL]
end K07
namespace K07
open PySem PySem.Spec PyProof.Rows L2 Mr
theorem e_bit {xs : List D} {n : Nat} {m : Int} (h : Bowl n xs) (hm : 0 < m) (hs : Sz 9000 m) (hn : n < 1000000) : ∃ (k : Int) (ys : List D), m__law_bit (.own true xs) [.int m] = .ok (.int k) (.own true ys) ∧ 0 ≤ k ∧ k < m ∧ Bowl (n + 1) ys := E_bit h hm hs hn
theorem e_bowl {ns : List Int} {k : Nat} (hk : k < 64) : ∃ xs, m__law_bowl [.frz (ns.map .int), .int k] = .ok xs ∧ Bowl 0 xs := E_bowl hk
theorem e_size {xs : List D} {n : Nat} (h : Bowl n xs) (hn : n < 900000) : ∃ (k : Int) (ys : List D), m__law_size (.own true xs) [] = .ok (.int k) (.own true ys) ∧ Sz 201 k ∧ Bowl (n + 2) ys := by
  obtain ⟨lot, x1, e1, l0, l1, b1⟩ := e_bit h (m := 6) (by decide) (by unfold Sz; decide) (by omega)
  obtain ⟨M, eM, M0, sM⟩ : ∃ M : Int, ixD (.lst [.int 1, .int 2, .int 12, .int 1000, .int T19, .int T60]) (.int lot) = .ok (.int M) ∧ 0 < M ∧ Sz 200 M := by
    have : lot = 0 ∨ lot = 1 ∨ lot = 2 ∨ lot = 3 ∨ lot = 4 ∨ lot = 5 := by omega
    rcases this with rfl | rfl | rfl | rfl | rfl | rfl
    · exact ⟨1, rfl, by decide, (sz_small (by decide) (by decide)).mono (by decide)⟩
    · exact ⟨2, rfl, by decide, (sz_small (by decide) (by decide)).mono (by decide)⟩
    · exact ⟨12, rfl, by decide, (sz_small (by decide) (by decide)).mono (by decide)⟩
    · exact ⟨1000, rfl, by decide, (sz_small (by decide) (by decide)).mono (by decide)⟩
    · exact ⟨T19, rfl, pos_T19, sz_T19.mono (by decide)⟩
    · exact ⟨T60, rfl, pos_T60, sz_T60⟩
  have m1 : mulOk 2 M := mulOkS (a := 64) (sz_small (by decide) (by decide)) sM
  have s2 : Sz 202 (2 * M + 1) := by
    have := (sM.add sM).add (Sz.one)
    rw [show M + M + 1 = 2 * M + 1 by omega] at this
    exact this.mono (by decide)
  obtain ⟨k, x2, e2, k0, k1, b2⟩ := e_bit b1 (m := 2 * M + 1) (by omega) (s2.mono (by decide)) (by omega)
  refine ⟨k - M, x2, ?_, ?_, b2⟩
  · unfold m__law_size b__law_size runI
    simp [e1, lstD_of, sizeLine_eq, eM, op_mulI m1, e2]
  · have : Sz 201 M := sM.mono (by decide)
    exact this.of_abs (by omega)
theorem draw_row {xs : List D} {b n : Nat} {r1 r2 r3 r4 r5 r6 r7 r8 r9 r11 : SV} (h : Bowl b xs) (hb : b + 2 * n < 900000) :
    ∃ (ks : List Int) (ys : List D), lcM [10] (.sl 10) tYesM (mIo m__law_size 0 0 mNil) ((List.range n).map fun (k : Nat) => .int k) [] [.own true xs, r1, r2, r3, r4, r5, r6, r7, r8, r9, .un, r11] = .ok (ks.map .int) [.own true ys, r1, r2, r3, r4, r5, r6, r7, r8, r9, .un, r11] ∧
      ks.length = n ∧ (∀ k ∈ ks, Sz 201 k) ∧ Bowl (b + 2 * n) ys := by
  obtain ⟨ys, ρ', e, i, l, p⟩ := lcM_run2 (vs := [10]) (t := .sl 10) (el := mIo m__law_size 0 0 mNil) (I := fun j ρ => ∃ ys, ρ = [.own true ys, r1, r2, r3, r4, r5, r6, r7, r8, r9, .un, r11] ∧ Bowl (b + 2 * j) ys) (P := fun y => ∃ k, y = .int k ∧ Sz 201 k)
    ((List.range n).map fun (k : Nat) => D.int k) [] 0 [.own true xs, r1, r2, r3, r4, r5, r6, r7, r8, r9, .un, r11] (by simp [sizeLine_eq]; omega) ⟨xs, rfl, by simpa using h⟩ (fun d hd j ρ h0 h1 hI => by
      obtain ⟨zs, rfl, hz⟩ := hI
      rw [List.length_map, List.length_range] at h1
      refine ⟨rfl, ?_⟩
      obtain ⟨k, ys, e, s, hy⟩ := e_size hz (by omega)
      refine ⟨.int k, [.own true ys, r1, r2, r3, r4, r5, r6, r7, r8, r9, .un, r11], ?_, ⟨ys, rfl, hy⟩, k, rfl, s⟩
      simp [turnM, e])
  obtain ⟨zs, rfl, hz⟩ := i
  obtain ⟨ks, rfl, hk⟩ := ints_of p
  rw [List.length_map, List.length_map, List.length_range] at l
  rw [List.length_map, List.length_range, Nat.zero_add] at hz
  exact ⟨ks, zs, by simpa using e, l, hk, hz⟩
end K07
namespace K07
open PySem PySem.Spec PyProof.Rows L2 Mr
theorem Bowl.mono {n m : Nat} {xs : List D} (h : Bowl n xs) (l : n ≤ m) : Bowl m xs := by
  obtain ⟨a, b, c, rfl, a0, a1, b0, b1, c0, c1⟩ := h
  exact ⟨a, b, c, rfl, a0, a1, b0, b1, c0, by omega⟩
theorem dot_comm (xs ys : List Int) : dot xs ys = dot ys xs := by
  unfold dot
  rw [List.zipWith_comm]
  congr 1
  congr 1
  funext a b
  exact Int.mul_comm _ _
theorem mem_zipW {α β γ : Type} {f : α → β → γ} : ∀ {xs : List α} {ys : List β} {z : γ}, z ∈ xs.zipWith f ys → ∃ x ∈ xs, ∃ y ∈ ys, f x y = z
  | [], ys, z, h => by simp at h
  | x :: xs, [], z, h => by simp at h
  | x :: xs, y :: ys, z, h => by
    rw [List.zipWith_cons_cons] at h
    rcases List.mem_cons.mp h with e | e
    · exact ⟨x, List.mem_cons_self .., y, List.mem_cons_self .., e.symm⟩
    · obtain ⟨a, ha, b, hb, e⟩ := mem_zipW e
      exact ⟨a, List.mem_cons_of_mem _ ha, b, List.mem_cons_of_mem _ hb, e⟩
theorem dot_add : ∀ (xs ys zs : List Int), xs.length = zs.length → ys.length = zs.length → dot (xs.zipWith (· + ·) ys) zs = dot xs zs + dot ys zs
  | [], ys, zs, h, h' => by
    have : zs = [] := List.eq_nil_of_length_eq_zero h.symm
    subst this
    have : ys = [] := List.eq_nil_of_length_eq_zero h'
    subst this
    rfl
  | x :: xs, [], zs, h, h' => by rw [← h'] at h; simp at h
  | x :: xs, y :: ys, [], h, h' => by simp at h
  | x :: xs, y :: ys, z :: zs, h, h' => by
    have ih := dot_add xs ys zs (by simpa using h) (by simpa using h')
    unfold dot at *
    simp only [List.zipWith_cons_cons, List.sum_cons] at *
    rw [ih, Int.add_mul]
    omega
theorem dot_mul (n : Int) : ∀ (xs zs : List Int), dot (xs.map (n * ·)) zs = n * dot xs zs
  | [], zs => by simp [dot]
  | x :: xs, [] => by simp [dot]
  | x :: xs, z :: zs => by
    have ih := dot_mul n xs zs
    unfold dot at *
    simp only [List.map_cons, List.zipWith_cons_cons, List.sum_cons] at *
    rw [ih, Int.mul_add, Int.mul_assoc]
theorem dot_sz {a b : Nat} {xs ys : List Int} (h : ∀ x ∈ xs, Sz a x) (h' : ∀ y ∈ ys, Sz b y) (l : xs.length ≤ 4) : Sz (a + b + 2) (dot xs ys) := by
  unfold dot
  refine Sz.sum (fun z hz => ?_) ?_
  · obtain ⟨x, hx, y, hy, rfl⟩ := mem_zipW hz
    exact (h x hx).mul (h' y hy)
  · rw [List.length_zipWith]
    omega
theorem zadd_comm : ∀ A B : List Int, A.zipWith (· + ·) B = B.zipWith (· + ·) A
  | [], B => by cases B <;> rfl
  | a :: A, [] => rfl
  | a :: A, b :: B => by rw [List.zipWith_cons_cons, List.zipWith_cons_cons, zadd_comm A B, Int.add_comm a b]
theorem zip_range {γ : Type} {A B : List Int} {n : Nat} {F : Int → Int → γ} (hA : A.length = n) (hB : B.length = n) : (List.range n).map (fun k => F (A.getD k 0) (B.getD k 0)) = A.zipWith F B := by
  apply List.ext_getElem
  · simp; omega
  · intro i h1 h2
    rw [List.length_map, List.length_range] at h1
    have a1 : i < A.length := by omega
    have b1 : i < B.length := by omega
    simp [a1, b1]
theorem zero_row : ∀ n : Nat, (List.replicate n [D.int 0]).flatten = List.replicate n (D.int 0)
  | 0 => rfl
  | n + 1 => by rw [List.replicate_succ, List.flatten_cons, zero_row n]; rfl
theorem ix_ints {xs : List Int} {k : Nat} (h : k < xs.length) : ixD (.tup (xs.map .int)) (.int k) = .ok (.int (xs.getD k 0)) := ixD_tup (by simp [h])
theorem e_right {xs : List D} {b : Nat} (h : Bowl b xs) (hb : b < 800000) : ∃ ys : List D, m__law_right (.own true xs) [] = .ok (.bl true) (.own true ys) ∧ Bowl (b + 27) ys := by
  obtain ⟨k, x0, e0, k0, k1, b0⟩ := e_bit h (m := 4) (by decide) (by unfold Sz; decide) (by omega)
  obtain ⟨n, hn⟩ : ∃ n : Nat, 1 + k = (n : Int) := ⟨(1 + k).toNat, by omega⟩
  have n1 : 1 ≤ n := by omega
  have n4 : n ≤ 4 := by omega
  have rn := range1_of (i := (n : Int)) (by omega) (by omega)
  rw [Int.toNat_natCast] at rn
  obtain ⟨A, x1, eA, lA, sA, b1⟩ := draw_row (r1 := .val (.int n)) (r2 := .un) (r3 := .un) (r4 := .un) (r5 := .un) (r6 := .un) (r7 := .un) (r8 := .un) (r9 := .un) (r11 := .un) (n := n) b0 (by omega)
  obtain ⟨B, x2, eB, lB, sB, b2⟩ := draw_row (r1 := .val (.int n)) (r2 := .un) (r3 := .un) (r4 := .un) (r5 := .un) (r6 := .un) (r7 := .un) (r8 := .un) (r9 := .un) (r11 := .un) (n := n) b1 (by omega)
  obtain ⟨S, x3, eS, lS, sS, b3⟩ := draw_row (r1 := .val (.int n)) (r2 := .un) (r3 := .un) (r4 := .val (.tup (A.map .int))) (r5 := .val (.tup (B.map .int))) (r6 := .un) (r7 := .un) (r8 := .un) (r9 := .un) (r11 := .un) (n := n) b2 (by omega)
  obtain ⟨N, x4, eN, sN, b4⟩ := e_size b3 (by omega)
  refine ⟨x4, ?_, Bowl.mono b4 (by omega)⟩
  have row : ∀ {l : List Int}, l.length = n → (∀ k ∈ l, Sz 600 k) → Row l := fun e s => ⟨fun z => by rw [z] at e; simp at e; omega, by omega, s⟩
  have RA := row lA fun z hz => (sA z hz).mono (by decide)
  have RB := row lB fun z hz => (sB z hz).mono (by decide)
  have RS := row lS fun z hz => (sS z hz).mono (by decide)
  obtain ⟨C, hC⟩ : ∃ C, C = A.zipWith (· + ·) B := ⟨_, rfl⟩
  obtain ⟨E, hE⟩ : ∃ E, E = A.map (N * ·) := ⟨_, rfl⟩
  have lC : C.length = n := by rw [hC, List.length_zipWith]; omega
  have lE : E.length = n := by rw [hE, List.length_map]; omega
  have sC : ∀ z ∈ C, Sz 202 z := fun z hz => by
    rw [hC] at hz
    obtain ⟨x, hx, y, hy, rfl⟩ := mem_zipW hz
    exact (sA x hx).add (sB y hy)
  have sE : ∀ z ∈ E, Sz 402 z := fun z hz => by
    rw [hE] at hz
    obtain ⟨x, hx, rfl⟩ := List.mem_map.mp hz
    exact sN.mul (sA x hx)
  have RC := row lC fun z hz => (sC z hz).mono (by decide)
  have RE := row lE fun z hz => (sE z hz).mono (by decide)
  have f1 := e_added RA RB (by omega)
  have f2 := e_added RB RA (by omega)
  rw [← hC] at f1
  rw [show B.zipWith (· + ·) A = C by rw [hC]; exact zadd_comm B A] at f2
  have f3 := e_scaled RA (sN.mono (by decide))
  rw [← hE] at f3
  have f4 := e_scaled (n := 1) RA (Sz.one.mono (by decide))
  rw [show A.map ((1 : Int) * ·) = A from by rw [show (fun x : Int => 1 * x) = id from funext fun x => Int.one_mul x, List.map_id]] at f4
  have f5 := e_scaled (n := 0) RA Sz.zero
  have z5 : mulD (.tup [.int 0]) (.int n) = .ok (.tup (List.map D.int (A.map ((0 : Int) * ·)))) := by
    have e : List.map D.int (A.map ((0 : Int) * ·)) = List.replicate n (.int 0) := by
      rw [← lA]
      simp
      exact List.map_const' ..
    rw [e]
    show (if (n : Int) = 1 then FR.ok (D.tup [.int 0]) else if _ then FR.ok (D.tup (List.replicate (n : Int).toNat [D.int 0]).flatten) else .stuck) = _
    by_cases q : n = 1
    · subst q; rfl
    · rw [if_neg (by omega), if_pos ⟨by simp, by omega, by omega, by simp⟩, Int.toNat_natCast, zero_row]
  obtain ⟨Z, hZ⟩ : ∃ Z, Z = A.map ((0 : Int) * ·) := ⟨_, rfl⟩
  rw [← hZ] at f5 z5
  have g1 := e_value_of RA RS (by omega)
  have g2 := e_value_of RB RS (by omega)
  have g3 := e_value_of RS RA (by omega)
  have g4 := e_value_of RC RS (by omega)
  have g5 := e_value_of RE RS (by omega)
  have g6 := e_value_of RS RC (by omega)
  have a1 := e_amount RA.le RA.sz RS.sz
  have a2 := e_amount RB.le RB.sz RS.sz
  rw [dot_comm S A] at g3
  rw [dot_comm S C, hC, dot_add A B S (by omega) (by omega), ← hC] at g6
  rw [hC, dot_add A B S (by omega) (by omega), ← hC] at g4
  rw [hE, dot_mul, ← hE] at g5
  have mN : mulOk N (dot A S) := mulOkS sN (dot_sz sA sS (by omega))
  have hL1 : lcM [10] (.sl 10) tYesM (m2 addD (m2 ixD (mVar 4) (mVar 10)) (m2 ixD (mVar 5) (mVar 10))) ((List.range n).map fun (k : Nat) => .int k) [] [.own true x4, .val (.int n), .un, .un, .val (.tup (A.map .int)), .val (.tup (B.map .int)), .val (.tup (S.map .int)), .val (.int N), .val (.tup (C.map .int)), .val (.tup (E.map .int)), .un, .un] = .ok (C.map .int) [.own true x4, .val (.int n), .un, .un, .val (.tup (A.map .int)), .val (.tup (B.map .int)), .val (.tup (S.map .int)), .val (.int N), .val (.tup (C.map .int)), .val (.tup (E.map .int)), .un, .un] := by
    rw [lcM_map (fun (k : Nat) => D.int k) (List.range n) (fun k => .int (A.getD k 0 + B.getD k 0)) rfl (by rw [List.length_range, sizeLine_eq]; omega) fun k hk => by
      have hk := List.mem_range.mp hk
      simp [turnM, ix_ints (xs := A) (k := k) (by omega), ix_ints (xs := B) (k := k) (by omega)]]
    have e : (List.range n).map (fun k => D.int (A.getD k 0 + B.getD k 0)) = C.map D.int := by
      rw [hC, zip_range (F := fun x y => D.int (x + y)) lA lB, List.map_zipWith]
    rw [e]
  have hL2 : lcM [11] (.sl 11) tYesM (m2 mulD (mVar 7) (mVar 11)) (A.map .int) [] [.own true x4, .val (.int n), .un, .un, .val (.tup (A.map .int)), .val (.tup (B.map .int)), .val (.tup (S.map .int)), .val (.int N), .val (.tup (C.map .int)), .val (.tup (E.map .int)), .un, .un] = .ok (E.map .int) [.own true x4, .val (.int n), .un, .un, .val (.tup (A.map .int)), .val (.tup (B.map .int)), .val (.tup (S.map .int)), .val (.int N), .val (.tup (C.map .int)), .val (.tup (E.map .int)), .un, .un] := by
    rw [lcM_map D.int A (fun x => .int (N * x)) rfl RA.line fun x hx => by
      simp [turnM, op_mulI (mulOkS sN (sA x hx))], hE]
    simp
  unfold m__law_right b__law_right runI
  simp [e0, hn, rn, eA, eB, eS, eN, f1, f2, f3, f4, f5, z5, g1, g2, g3, g4, g5, g6, a1, a2, hL1, hL2, op_neS, op_eqS, op_mulI mN, tupD_of, lstD_of, sizeLine_eq]
end K07
namespace K07
open PySem PySem.Spec PyProof.Rows L2 Mr
theorem e_turn {r0 r1 r2 : SV} {xs : List D} {v4 : SV} {b : Nat} (h : Bowl b xs) (hb : b < 800000) (h4 : v4.isIo = false) (d : D) :
    ∃ ys, turnF (.sl 4) (xIf (tNot (tOf (mIo m__law_right 0 3 mNil))) (xRet (mC (.bl false))) xNx) [r0, r1, r2, .own false xs, v4] d = .ok .nx [r0, r1, r2, .own false ys, .val d] ∧ Bowl (b + 27) ys := by
  obtain ⟨ys, e, h'⟩ := e_right h hb
  exact ⟨ys, by simp [turnF, h4, e], h'⟩
theorem e_body {ns : List Int} {v1 v3 v4 : SV} {k : Nat} (hk : k < 64) (h1 : v1.isIo = false) (h3 : v3.isIo = false) (h4 : v4.isIo = false) :
    ∃ w3 w4, turnF (.sl 1) (xSeq (xOwn 3 (mCallN m__law_bowl 2 (mCons (mVar 0) (mCons (mVar 1) mNil)))) (xFor (mItL range1D (mCons (mC (.int 8)) mNil)) (.sl 4) (xIf (tNot (tOf (mIo m__law_right 0 3 mNil))) (xRet (mC (.bl false))) xNx)))
      [.val (.frz (ns.map .int)), v1, .un, v3, v4] (.int k) = .ok .nx [.val (.frz (ns.map .int)), .val (.int k), .un, w3, w4] ∧ w3.isIo = false ∧ w4.isIo = false := by
  obtain ⟨xs, e, h⟩ := e_bowl (ns := ns) hk
  obtain ⟨ρ', f, zs, w4, rfl, hw, hz⟩ := forM_inv (t := .sl 4) (body := xIf (tNot (tOf (mIo m__law_right 0 3 mNil))) (xRet (mC (.bl false))) xNx)
    (I := fun j ρ => ∃ zs w4, ρ = [SV.val (.frz (ns.map .int)), .val (.int k), .un, .own false zs, w4] ∧ w4.isIo = false ∧ Bowl (27 * j) zs) ((List.range 8).map fun (k : Nat) => D.int k) 0
    [.val (.frz (ns.map .int)), .val (.int k), .un, .own false xs, v4] ⟨xs, v4, rfl, h4, h⟩ (fun d hd j ρ j0 j1 hI => by
      obtain ⟨zs, w4, rfl, hw, hz⟩ := hI
      have j2 : j < 8 := by simpa using j1
      obtain ⟨ys, e, h'⟩ := e_turn (r0 := .val (.frz (ns.map .int))) (r1 := .val (.int k)) (r2 := .un) hz (by omega) hw d
      exact ⟨_, e, ys, .val d, rfl, rfl, by rw [show 27 * (j + 1) = 27 * j + 27 by omega]; exact h'⟩)
  refine ⟨.own false zs, w4, ?_, rfl, hw⟩
  have rn := range1_of (i := 8) (by decide) (by decide)
  rw [show (8 : Int).toNat = 8 from rfl] at rn
  simp only [turnF, ap_putS, ap_Seq, ap_xOwn, ap_For]
  simp [h1, h3, e, rn]
  rw [show (List.map (fun (k : Nat) => D.int ↑k) (List.range 8)) = _ from rfl] at f
  simpa using f
theorem plain (ns : List Int) (hl : ns.length ≤ 63) : m_law [.frz (ns.map .int)] = .ok (.bl true) := by
  obtain ⟨N, hN, N8⟩ : ∃ N : Nat, (if (if (ns.length : Int) < 8 then (ns.length : Int) else 8) > 1 then (if (ns.length : Int) < 8 then (ns.length : Int) else 8) else 1) = (N : Int) ∧ N ≤ 8 :=
    ⟨(if (if (ns.length : Int) < 8 then (ns.length : Int) else 8) > 1 then (if (ns.length : Int) < 8 then (ns.length : Int) else 8) else 1).toNat, by split <;> split <;> omega, by split <;> split <;> omega⟩
  obtain ⟨ρ', f, v1, v3, v4, rfl, h1, h3, h4⟩ := forM_inv (t := .sl 1) (body := (xSeq (xOwn 3 (mCallN m__law_bowl 2 (mCons (mVar 0) (mCons (mVar 1) mNil)))) (xFor (mItL range1D (mCons (mC (.int 8)) mNil)) (.sl 4) (xIf (tNot (tOf (mIo m__law_right 0 3 mNil))) (xRet (mC (.bl false))) xNx))))
    (I := fun j ρ => ∃ v1 v3 v4, ρ = [SV.val (.frz (ns.map .int)), v1, .un, v3, v4] ∧ v1.isIo = false ∧ v3.isIo = false ∧ v4.isIo = false) ((List.range N).map fun (k : Nat) => D.int k) 0
    [.val (.frz (ns.map .int)), .un, .un, .un, .un] ⟨_, _, _, rfl, rfl, rfl, rfl⟩ (fun d hd j ρ j0 j1 hI => by
      obtain ⟨v1, v3, v4, rfl, h1, h3, h4⟩ := hI
      obtain ⟨k, hk, rfl⟩ := List.mem_map.mp hd
      have hk := List.mem_range.mp hk
      obtain ⟨w3, w4, e, h5, h6⟩ := e_body (ns := ns) (k := k) (by omega) h1 h3 h4
      exact ⟨_, e, _, _, _, rfl, rfl, h5, h6⟩)
  have rn := range1_of (i := (N : Int)) (by omega) (by omega)
  rw [Int.toNat_natCast] at rn
  have row : ∀ {l : List Int}, l ≠ [] → l.length ≤ 4 → (∀ z ∈ l, 0 ≤ z + 100 ∧ z < 100) → Row l := fun h h' s => ⟨h, h', fun z hz => Sz.mono (a := 8) (by have := s z hz; unfold Sz; omega) (by decide)⟩
  have q1 := e_value_of (xs := [3, 2, -1]) (ys := [1, 5, 4]) (row (by simp) (by decide) (by decide)) (row (by simp) (by decide) (by decide)) rfl
  have q2 := e_value_of (xs := [0]) (ys := [7]) (row (by simp) (by decide) (by decide)) (row (by simp) (by decide) (by decide)) rfl
  have q3 := e_added (xs := [1, 2]) (ys := [-1, -2]) (row (by simp) (by decide) (by decide)) (row (by simp) (by decide) (by decide)) rfl
  have q4 := e_scaled (xs := [0, -3]) (n := -2) (row (by simp) (by decide) (by decide)) (Sz.mono (a := 8) (by unfold Sz; decide) (by decide))
  simp [dot] at q1 q2 q3 q4
  simp at hN
  unfold m_law b_law runF
  simp only [ap_Seq, ap_For]
  simp [hN, rn, f, h3, q1, q2, q3, q4, lstD_of, tupD_of, sizeLine_eq, op_eqS]
end K07
open PySem PySem.W PySem.Calls PyProof.Rows
theorem PySem.Challenge.cw_staystarts_k07_values_sums_and_multiples_holds : PySem.Challenge.rw_staystarts_k07_values_sums_and_multiples.Holds := by
  exact K07.holds fun ns hl _ => K07.plain ns hl
