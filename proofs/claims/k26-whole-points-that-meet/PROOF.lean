import PyProof.Rows.All
import Wide.All
import OpenK.AllK
import Wide.FinOn
import HandS.ForMost
import HandS.ForExc
import HandS.Wide
import HandS.WideMore
import HandS.Zip
import HandS.Defaults
import HandS.HeadHook1
import HandS.Lambda
import HandS.IsInst
import HandS.WideBits
import HandS.TupMul
import KE.DataEq
import HandS.TupAny
import PyProof.FString5
import PyProof.Rows.RuleB_pow
import HandS.Head0
import HandS.Head1
import HandS.Head2
import HandS.HeadEnd
import HandS.HeadHook2
import HandS.EndBits
import HandS.NestedK
import KE.KStateDown
import HandS.Property
import KE.GoesEnum
import HandS.Star
import HandS.DictComp
import PyProof.CallFns
import PyProof.ReprText
import PyProof.ReprRoads
import HandS.Strs
import HandS.HeadHook3
import HandS.Style
import PyProof.ExcBaseAll.ValueError
import KE.GoesZip
import HandS.Conv
import PyProof.ReprLoop
import PyProof.Rows.RegStrFacts
import PySem.Challenge.RW_staystarts_k26_whole_points_that_meet
set_option Elab.async false
set_option linter.all false
set_option maxRecDepth 100000
set_option maxHeartbeats 4000000
set_option exponentiation.threshold 9000
/-! Mr0: a def's promise where no repr is under way. -/
namespace Mr
open PySem PySem.Spec PyProof.Rows L2
/-- room, and nothing whose text is being made -/
structure RoomG (k : Nat) (A : Around) : Prop where
  r : Room k A
  g : A.guards = some []
section
variable {k j : Nat} {A : Around}
theorem RoomG.mono (q : RoomG k A) (h : j ≤ k) : RoomG j A := ⟨q.r.mono h, q.g⟩
theorem RoomG.units (q : RoomG k A) : A.units + 64 < cLine := q.r.units
theorem guards_deeper {env : Env} : (A.deeper env).guards = A.guards := by
  cases A; rfl
theorem guards_make {C : Addr} {us : List Value} {kw : List (Str × Value)} : (A.under (.builtin "type.__call__" ⟨.ref C :: us, kw⟩)).guards = A.guards := by
  cases A with
  | mk a b c d e => cases d <;> first | rfl | simp [Around.under]
theorem RoomG.deeper (q : RoomG (k + 1) A) (env : Env) : RoomG k (A.deeper env) := ⟨q.r.deeper env, guards_deeper.trans q.g⟩
theorem RoomG.make (q : RoomG (k + 1) A) (C : Addr) (us : List Value) (kw : List (Str × Value)) : RoomG k (A.under (.builtin "type.__call__" ⟨.ref C :: us, kw⟩)) := ⟨q.r.make C us kw, guards_make.trans q.g⟩
end
/-- the promise of the def at f -/
structure FnG (P : Program) (w : World) (K : PySem.W.Frag) (mg : Str → Option Value) (base : Heap) (k : Nat) (f : Addr) (fd : FuncData) (ps : List Str) (sp : Sp) : Prop where
  len : ∀ vs H Q E, sp vs H Q E → vs.length = ps.length
  run : ∀ (A : Around) (fr : List Env) (s : Shared) (H : Hp) (gv : Args) (us : List Value) (vs : List V) (Q : VK) (E : XK), RoomG k A → Env0 P w K mg base A fr s H → BindsTo s fd gv (ps.zip us) → Vals vs us → sp vs H Q E →
    codeAny (model P w) A (.call (.ref f) gv) (CR (L2.CX P w) fr P w H s Q E) s
section
variable {P : Program} {w : World} {K : PySem.W.Frag} {mg : Str → Option Value} {base : Heap}
theorem FnG.mono {j k : Nat} {f : Addr} {fd : FuncData} {ps : List Str} {sp : Sp} (F : FnG P w K mg base j f fd ps sp) (h : j ≤ k) : FnG P w K mg base k f fd ps sp :=
  ⟨F.len, fun A fr s H gv us vs Q E q => F.run A fr s H gv us vs Q E (q.mono h)⟩
/-- the code object of the def at f -/
def codV (K : PySem.W.Frag) (f : Addr) : Value := match K.lookup f with
  | some ⟨_, _, .func fd, _⟩ => fd.code
  | _ => .none
/-- a def's promise of its body's -/
theorem fng_of {x qual : Str} {params : Arguments} {body : List Stmt} {scope : Scope} {dvs : List V} {kws : List (Str × V)} {f : Addr} {fd : FuncData} {N ps : List Str} {k : Nat} {sp : Sp} (F : FunD K x qual params body scope dvs kws f fd) (S : FnScope N ps scope)
    (len : ∀ vs H Q E, sp vs H Q E → vs.length = ps.length)
    (hb : ∀ (cdv : Value) (_ : codV K f = cdv) (A : Around) (fr : List Env) (s : Shared) (H : Hp) (vs : List V) (Q : VK) (E : XK), RoomG k (A.deeper (envOfC qual scope s.heap.objs.size f cdv)) → sp vs H Q E →
      ∃ t, PSs (cxOf (L2.CX P w) P w K mg base N qual scope f cdv A fr s H E) body t ∧ t { nx := fun _ H' => Q .non H', rt := Q } (L2.start N vs) H) : FnG P w K mg base (k + 1) f fd ps sp := by
  obtain ⟨oc, od, dV, kV, doc, pm, an, cdv, ct, osl, rfl, at_f, code_f, _, _⟩ := F.ex
  refine ⟨len, fun A fr s H gv us vs Q E room e0 bind rel hs => ?_⟩
  have hl := len _ _ _ _ hs
  have inK : K.In s.heap := e0.mod.kin.keeps fun b o e => (e0.bs b o e).1
  have nl : s.heap.NoLimit := e0.mod.nolimit.keeps fun b o e => (e0.bs b o e).1
  have kinds : ∀ y ∈ ps.zip us, scope.names.lookup y.1 = some .local ∨ (scope.names.lookup y.1 = some .cell ∧ ((cellsFrom (s.heap.objs.size + 1) scope.names []).lookup y.1).isSome = true) := by
    rintro ⟨n, v⟩ hy
    cases S.par n (List.of_mem_zip hy).1 with
    | inl q => exact .inl q
    | inr q => exact .inr ⟨q, PySem.W.cellsFrom_some _ _ _ (.inl q)⟩
  refine codeAny_call_function room.r.depth (inK _ _ at_f) rfl S.co S.gen rfl (PySem.W.codeRec_of inK code_f) (bind _ _ _ _ (wpAny_newFunctionEnv_cells S.kind kinds fun env he s1 x => ?_))
  subst he
  refine ⟨nl.keeps x.toInCall.keep, codeAny_func ?_⟩
  obtain ⟨t, ht, q⟩ := hb cdv (by unfold codV; rw [at_f]) A fr s H vs Q E (room.deeper _) hs
  have I1 : Inv (cxOf (L2.CX P w) P w K mg base N qual scope f cdv A fr s H E) [] (L2.start N vs) H s1 := inv_start S room.r.hd e0 hl rel x
  refine wpAny_mono (ht.run [] s1 (L2.start N vs) H _ I1 q) (fun fl s2 h2 => ?_) fun _ _ h => h
  cases fl with
  | ret u =>
    obtain ⟨v, _, H', J, rv, z⟩ := h2
    exact ⟨v, H', J.os, J.bare, J.base, J.hok, rv, z⟩
  | next =>
    obtain ⟨_, H', J, z⟩ := h2
    exact ⟨V.non, H', J.os, J.bare, J.base, J.hok, rfl, z⟩
  | brk => exact h2.choose_spec.choose_spec.2.elim
  | cont => exact h2.choose_spec.choose_spec.2.elim
end
/-- the callee runs -/
theorem run_fnG {X : Cx} {k : Nat} {f : Addr} {fd : FuncData} {ps : List Str} {sp : Sp} {dvs : List V} {ds : List Value} {E : XK} {pins : List (Addr × Obj)} {σ : L2.St} {H : Hp} {s : Shared} {Q : VK} {us : List Value} {vs : List V}
    (F : FnG X.prog X.w X.K X.mg X.base k f fd ps sp) (room : RoomG k X.A) (bind : Binds X.K fd ps ds) (dfl : Vals dvs ds) (pass : Passes (L2.CX X.prog X.w) X E)
    (I : Inv X pins σ H s) (r : Vals vs us) (h : sp (vs ++ dvs) H Q E) : wpAny (model X.prog X.w) X.A (call (.ref f) us) (EP X pins σ Q) X.xe s := by
  have rr := r.append dfl
  have hl : (us ++ ds).length = ps.length := rr.length.symm.trans (F.len _ _ _ _ h)
  refine wpAny_call (codeAny_mono (F.run X.A X.stack s H ⟨us, []⟩ _ _ Q E room I.env0 (bind s us I.kIn hl) rr h) fun r s2 q => ?_)
  match r, q with
  | .error e, q => exact pass pins σ H s e s2 I q
  | .ok (.ret u), q => exact I.after q
  | .ok .next, q => exact False.elim q
  | .ok .brk, q => exact False.elim q
  | .ok .cont, q => exact False.elim q
end Mr
/-! Mr: plain data for what the defs handle, a state of slots, and one soundness lemma a construct. -/
namespace Mr
open PySem PySem.Spec PyProof.Rows L2

abbrev St := L2.St
/-- the tables of code objects that lambdas are made with, and what the lambdas are called -/
class Lam where
  T : PySem.W.Frag → List (Addr × Str)
/-- slots whose values the context knows -/
class Pins where
  pv : List (Nat × V)
instance (priority := low) pins0 : Pins := ⟨[]⟩
def isTb : HO → Bool
  | .tbl _ => true
  | _ => false
def isX : HO → Bool
  | .tbl _ => true
  | .ext _ => true
  | _ => false
theorem isX_tb {o : HO} (h : isX o = false) : isTb o = false := by
  cases o <;> first | rfl | cases h
/-- nothing is tracked at a, or a table -/
def Nn (H : Hp) (a : Addr) : Prop := ∀ o, H a = some o → isTb o = true
theorem Nn.of {H : Hp} {a : Addr} (h : H a = none) : Nn H a := fun o e => by rw [h] at e; cases e
theorem Nn.no {H : Hp} {a : Addr} {o : HO} (h : Nn H a) (e : H a = some o) (n : isTb o = false) : False := by
  have := h o e
  rw [n] at this; cases this
abbrev Ftb (F : Hp) : Prop := ∀ a o, F a = some o → isTb o = false
theorem Ftb.upd {F : Hp} (h : Ftb F) {p : Addr} {o : HO} (ho : isTb o = false) : Ftb (upd F p o) := fun a u e => by
  by_cases z : a = p
  · subst z; rw [upd_same] at e; cases e; exact ho
  · rw [upd_ne z] at e; exact h a u e
/-- what stood in H stands in H' -/
def Sm (H H' : Hp) : Prop := ∀ b o, H b = some o → H' b = some o
/-! ### data -/
inductive D where
  | non
  | bl (b : Bool)
  | int (i : Int)
  | str (x : Str)
  | tup (xs : List D)
  | lst (xs : List D)
  | frz (xs : List D)
  | obj (c : Str) (ns : List Str) (ds : List D)
  | dct (ks : List Key) (ds : List D)
  | opq (v : V)
  | any
instance : Inhabited D := ⟨.non⟩

mutual
inductive Rep (K : PySem.W.Frag) (H : Hp) : V → D → Prop where
  | non : Rep K H .non .non
  | bl (b : Bool) : Rep K H (.bl b) (.bl b)
  | int (i : Int) : Rep K H (.int i) (.int i)
  | str (x : Str) : Rep K H (.str x) (.str x)
  | tup {a : Addr} {xs : List V} {ds : List D} : SqT K H a xs → Reps K H xs ds → Rep K H (.ref a) (.tup ds)
  | lst {a : Addr} {xs : List V} {ds : List D} : H a = some (.lst xs) → Reps K H xs ds → Rep K H (.ref a) (.lst ds)
  | frz {a : Addr} {xs : List V} {ds : List D} : SqL K H a xs → Reps K H xs ds → Rep K H (.ref a) (.frz ds)
  | obj {a dx : Addr} {c : Str} {ns : List Str} {vs : List V} {fs : List (Str × V)} {ds : List D} : H a = some (.ins (He.ga K c) dx fs) → fs = ns.zip vs → ns.length = vs.length → Reps K H vs ds → Rep K H (.ref a) (.obj c ns ds)
  | dct {a : Addr} {ks : List Key} {vs : List V} {ds : List D} : H a = some (.dK (ks.zip vs)) → ks.length = vs.length → Reps K H vs ds → Rep K H (.ref a) (.dct ks ds)
  | opq (v : V) : Rep K H v (.opq v)
  | any (v : V) (h : v ≠ .non) : Rep K H v .any
inductive Reps (K : PySem.W.Frag) (H : Hp) : List V → List D → Prop where
  | nil : Reps K H [] []
  | cons {v : V} {vs : List V} {d : D} {ds : List D} : Rep K H v d → Reps K H vs ds → Reps K H (v :: vs) (d :: ds)
end

theorem Sm.refl {H : Hp} : Sm H H := fun _ _ h => h
theorem Sm.tr {H H' H'' : Hp} (a : Sm H H') (b : Sm H' H'') : Sm H H'' := fun x o h => b x o (a x o h)
theorem Sm.updN {H : Hp} {p : Addr} {o : HO} (h : H p = none) : Sm H (upd H p o) := fun b x e => by
  rw [upd_ne (ne_of_none e h)]; exact e
variable [Lam]
/-- what stood stands, tables apart -/
structure SmT (K : PySem.W.Frag) (H H' : Hp) : Prop where
  k : ∀ b o, H b = some o → isTb o = false → H' b = some o
  t : LamX.Tabs (Lam.T K) H → LamX.Tabs (Lam.T K) H'
theorem Sm.t {K : PySem.W.Frag} {H H' : Hp} (h : Sm H H') : SmT K H H' := ⟨fun b o e _ => h b o e, fun x => x.ext h⟩
theorem SmT.tr {K : PySem.W.Frag} {H H' H'' : Hp} (a : SmT K H H') (b : SmT K H' H'') : SmT K H H'' := ⟨fun x o h n => b.k x o (a.k x o h n) n, fun x => b.t (a.t x)⟩
/-- .. and what is at a -/
structure SmA (K : PySem.W.Frag) (a : Addr) (H H' : Hp) : Prop where
  k : ∀ b o, b ≠ a → H b = some o → isTb o = false → H' b = some o
  t : LamX.Tabs (Lam.T K) H → LamX.Tabs (Lam.T K) H'
theorem tabs_upd {H : Hp} {T : List (Addr × Str)} {a : Addr} {u o : HO} (h : LamX.Tabs T H) (ha : ∀ v, H a = some v → isX v = false) : LamX.Tabs T (upd H a o) := fun p hp => by
  obtain ⟨ps, e1, e2, e3⟩ := h p hp
  have n1 : p.1 ≠ a := fun z => by
    have := ha _ (z ▸ e1)
    cases this
  refine ⟨ps, by rw [upd_ne n1]; exact e1, e2, fun pos cv hc => ?_⟩
  obtain ⟨c, f1, f2⟩ := e3 pos cv hc
  have n2 : c ≠ a := fun z => by
    have := ha _ (z ▸ f2)
    unfold LamX.CodeO at this
    cases this
  exact ⟨c, f1, by rw [upd_ne n2]; exact f2⟩
theorem SmA.upd {K : PySem.W.Frag} {a : Addr} {H : Hp} {u o : HO} (ha : H a = some u) (hu : isX u = false) : SmA K a H (upd H a o) :=
  ⟨fun b w ne h _ => by rw [upd_ne ne]; exact h, fun x => tabs_upd (u := u) x fun v e => by rw [ha] at e; cases e; exact hu⟩
theorem Sm.none {F H : Hp} (s : Sm F H) {p : Addr} (h : H p = none) : F p = none := by
  cases e : F p with
  | none => rfl
  | some o => rw [s p o e] at h; cases h
theorem Rd.mono {H H' : Hp} {a : Addr} {u : HO} (s : Sm H H') (r : Rd H a u) : Rd H' a u := by
  rcases r with r | ⟨o, r⟩
  · exact .inl (s _ _ r)
  · exact .inr ⟨o, s _ _ r⟩
theorem SqLm {K : PySem.W.Frag} {H H' : Hp} {a : Addr} {xs : List V} (s : Sm H H') (r : SqL K H a xs) : SqL K H' a xs := by
  rcases r with r | r
  · exact .inl (Rd.mono s r)
  · exact .inr r
theorem SqTm {K : PySem.W.Frag} {H H' : Hp} {a : Addr} {xs : List V} (s : Sm H H') (r : SqT K H a xs) : SqT K H' a xs := by
  rcases r with r | r
  · exact .inl (Rd.mono s r)
  · exact .inr r
mutual
theorem Rep.mono {K : PySem.W.Frag} {H H' : Hp} (s : Sm H H') : ∀ {v : V} {d : D}, Rep K H v d → Rep K H' v d
  | _, _, .non => .non
  | _, _, .bl b => .bl b
  | _, _, .int i => .int i
  | _, _, .str x => .str x
  | _, _, .tup h r => .tup (SqTm s h) (Reps.mono s r)
  | _, _, .lst h r => .lst (s _ _ h) (Reps.mono s r)
  | _, _, .frz h r => .frz (SqLm s h) (Reps.mono s r)
  | _, _, .obj h e l r => .obj (s _ _ h) e l (Reps.mono s r)
  | _, _, .dct h l r => .dct (s _ _ h) l (Reps.mono s r)
  | _, _, .opq v => .opq v
  | _, _, .any v h => .any v h
theorem Reps.mono {K : PySem.W.Frag} {H H' : Hp} (s : Sm H H') : ∀ {vs : List V} {ds : List D}, Reps K H vs ds → Reps K H' vs ds
  | _, _, .nil => .nil
  | _, _, .cons h r => .cons (Rep.mono s h) (Reps.mono s r)
end
section
variable {K : PySem.W.Frag} {H : Hp}
theorem Reps.length : ∀ {vs : List V} {ds : List D}, Reps K H vs ds → vs.length = ds.length
  | _, _, .nil => rfl
  | _, _, .cons _ r => by simp [Reps.length r]
theorem Reps.get : ∀ {vs : List V} {ds : List D} (i : Nat) {d : D}, Reps K H vs ds → ds[i]? = some d → ∃ v, vs[i]? = some v ∧ Rep K H v d
  | _, _, _, _, .nil, e => by simp at e
  | _, _, 0, _, .cons h _, e => by simp at e; subst e; exact ⟨_, rfl, h⟩
  | _, _, i + 1, _, .cons _ r, e => by
    obtain ⟨v, h1, h2⟩ := Reps.get i r (by simpa using e)
    exact ⟨v, by simpa using h1, h2⟩
theorem Reps.getV : ∀ {vs : List V} {ds : List D} (i : Nat) {v : V}, Reps K H vs ds → vs[i]? = some v → ∃ d, ds[i]? = some d ∧ Rep K H v d
  | _, _, _, _, .nil, e => by simp at e
  | _, _, 0, _, .cons h _, e => by simp at e; subst e; exact ⟨_, rfl, h⟩
  | _, _, i + 1, _, .cons _ r, e => by
    obtain ⟨v, h1, h2⟩ := Reps.getV i r (by simpa using e)
    exact ⟨v, by simpa using h1, h2⟩
theorem Reps.append : ∀ {xs ys : List V} {ds es : List D}, Reps K H xs ds → Reps K H ys es → Reps K H (xs ++ ys) (ds ++ es)
  | _, _, _, _, .nil, s => s
  | _, _, _, _, .cons r t, s => .cons r (Reps.append t s)
theorem Reps.take : ∀ {xs : List V} {ds : List D} (n : Nat), Reps K H xs ds → Reps K H (xs.take n) (ds.take n)
  | _, _, 0, _ => .nil
  | _, _, _ + 1, .nil => .nil
  | _, _, n + 1, .cons r t => .cons r (Reps.take n t)
theorem Reps.drop : ∀ {xs : List V} {ds : List D} (n : Nat), Reps K H xs ds → Reps K H (xs.drop n) (ds.drop n)
  | _, _, 0, r => r
  | _, _, _ + 1, .nil => .nil
  | _, _, n + 1, .cons r t => Reps.drop n t
theorem Reps.set {v : V} {d : D} (r : Rep K H v d) : ∀ {xs : List V} {ds : List D} (i : Nat), Reps K H xs ds → Reps K H (xs.set i v) (ds.set i d)
  | _, _, _, .nil => .nil
  | _, _, 0, .cons _ t => .cons r t
  | _, _, i + 1, .cons q t => .cons q (Reps.set r i t)
theorem Reps.rep {v : V} {d : D} (r : Rep K H v d) : ∀ n : Nat, Reps K H (List.replicate n v) (List.replicate n d)
  | 0 => .nil
  | n + 1 => .cons r (Reps.rep r n)
theorem Reps.rev : ∀ {xs : List V} {ds : List D}, Reps K H xs ds → Reps K H xs.reverse ds.reverse
  | _, _, .nil => .nil
  | _, _, .cons q t => by
    rw [List.reverse_cons, List.reverse_cons]
    exact Reps.append (Reps.rev t) (.cons q .nil)
theorem Reps.ints : ∀ {vs : List V} {ns : List Int}, Reps K H vs (ns.map D.int) → vs = ns.map V.int
  | _, [], .nil => rfl
  | _, n :: ns, .cons h r => by cases h; rw [Reps.ints r]; rfl
theorem Reps.of_ints : ∀ (ns : List Int), Reps K H (ns.map V.int) (ns.map D.int)
  | [] => .nil
  | n :: ns => .cons (.int n) (Reps.of_ints ns)
end

/-! ### slots -/
/-- what a slot holds: nothing known; a value that stands still; a list, an instance of one's own (p: a parameter handed in to be changed) -/
inductive SV where
  | un
  | val (d : D)
  | own (p : Bool) (xs : List D)
  | ins (p : Bool) (c : Str) (ns : List Str) (ds : List D)
  | dic (p : Bool) (ks : List Key) (ds : List D)
  /-- a value that the context knows -/
  | pin
abbrev Ro := List SV
def SV.isOwn : SV → Bool
  | .own _ _ => true | .ins _ _ _ _ => true | .dic _ _ _ => true | _ => false
def SV.isIo : SV → Bool
  | .own p _ => p | .ins p _ _ _ => p | .dic p _ _ => p | .pin => true | _ => false
def SV.isHd : SV → Bool
  | .own p _ => p | .ins p _ _ _ => p | .dic p _ _ => p | _ => false
def SV.isPin : SV → Bool
  | .pin => true | _ => false
def SV.isFar (sv : SV) : Bool := sv.isOwn || sv.isPin
theorem SV.far_own {sv : SV} (h : sv.isFar = false) : sv.isOwn = false := by
  cases sv <;> first | rfl | cases h
theorem SV.far_io {sv : SV} (h : sv.isFar = false) : sv.isIo = false := by
  cases sv <;> first | rfl | cases h
theorem SV.isHd_io {sv : SV} (h : sv.isHd = true) : sv.isIo = true := by
  cases sv <;> first | exact h | cases h

/-- what stood at the entry; the parameters that may be changed; objects that wait -/
structure Ent where
  H0 : Hp
  F0 : Hp
  io : List (Nat × Addr)
  xt : List (Addr × HO)

def SlotOk (K : PySem.W.Frag) (H F : Hp) (s : Option (Option V)) : SV → Prop
  | .un => True
  | .val d => ∃ v, s = some (some v) ∧ Rep K F v d
  | .own _ xs => ∃ a vs, s = some (some (V.ref a)) ∧ H a = some (.lst vs) ∧ F a = none ∧ Reps K F vs xs
  | .ins _ c ns ds => ∃ a dx vs, s = some (some (V.ref a)) ∧ H a = some (.ins (He.ga K c) dx (ns.zip vs)) ∧ ns.length = vs.length ∧ F a = none ∧ Reps K F vs ds
  | .dic _ ks ds => ∃ a vs, s = some (some (V.ref a)) ∧ H a = some (.dK (ks.zip vs)) ∧ ks.length = vs.length ∧ F a = none ∧ Reps K F vs ds
  | .pin => True

section PinS
variable [Pins]
structure Stt (K : PySem.W.Frag) (G : Ent) (σ : St) (H F : Hp) (ρ : Ro) : Prop where
  sub : Sm F H
  ft : Ftb F
  tb : LamX.Tabs (Lam.T K) H
  same : ∀ a o, G.H0 a = some o → (∀ i, (i, a) ∉ G.io) → isTb o = false → H a = some o
  ext : Sm G.F0 F
  new : ∀ a o, F a = some o → G.F0 a = some o ∨ Nn G.H0 a
  len : ρ.length = σ.length
  at_ : ∀ i, SlotOk K H F (σ[i]?) (ρ.getD i .un)
  dis : ∀ i j a, (ρ.getD i .un).isOwn = true → (ρ.getD j .un).isOwn = true → σ[i]? = some (some (V.ref a)) → σ[j]? = some (some (V.ref a)) → i = j
  fresh : ∀ i a, (ρ.getD i .un).isOwn = true → σ[i]? = some (some (V.ref a)) → Nn G.H0 a ∨ (i, a) ∈ G.io
  io : ∀ i a, (i, a) ∈ G.io → σ[i]? = some (some (V.ref a)) ∧ (ρ.getD i .un).isHd = true
  xt : ∀ p ∈ G.xt, H p.1 = some p.2 ∧ F p.1 = none ∧ Nn G.H0 p.1 ∧ ∀ i, (ρ.getD i .un).isOwn = true → σ[i]? ≠ some (some (V.ref p.1))
  xx : ∀ p ∈ G.xt, isX p.2 = false
  xtd : (G.xt.map (·.1)).Nodup
  pin : ∀ i v, (i, v) ∈ Pins.pv → σ[i]? = some (some v) ∧ ρ.getD i .un = .pin

/-- a class by its name: the text's own, a built-in one -/
inductive Cn where
  | own (x : Str)
  | bi (x : String)
def Cn.v (K : PySem.W.Frag) : Cn → Value
  | .own x => .ref (He.ga K x)
  | .bi x => .type x
structure Ex where
  c : Cn
  fs : List (Str × D)
/-- an exception's own dict -/
def ExcAt (K : PySem.W.Frag) (F : Hp) (d : Option Addr) (fs : List (Str × D)) : Prop :=
  (fs = [] ∧ d = none) ∨ ∃ dd vs, d = some dd ∧ F dd = some (.xd ((fs.map (·.1)).zip vs)) ∧ Reps K F vs (fs.map (·.2))

inductive R (α : Type) where
  | ok (a : α) (ρ : Ro)
  | exc (x : Ex) (ρ : Ro)
  | stuck
abbrev M (α : Type) := Ro → R α
def R.bind {α β : Type} (r : R α) (k : α → Ro → R β) : R β := match r with
  | .ok a ρ => k a ρ
  | .exc x ρ => .exc x ρ
  | .stuck => .stuck
/-- what a def or an operation gives -/
inductive FR (α : Type) where
  | ok (a : α)
  | exc (x : Ex)
  | stuck
def FR.lift {α : Type} (r : FR α) (ρ : Ro) : R α := match r with
  | .ok a => .ok a ρ
  | .exc x => .exc x ρ
  | .stuck => .stuck
def FR.bind {α β : Type} (r : FR α) (k : α → FR β) : FR β := match r with
  | .ok a => k a
  | .exc x => .exc x
  | .stuck => .stuck

/-- r is what is wanted: P where it goes through, W of an exception -/
def Good {α : Type} (K : PySem.W.Frag) (G : Ent) (W : WX) (σ : St) (F : Hp) (r : R α) (P : α → Ro → Hp → Hp → Prop) : Prop := match r with
  | .ok a ρ => ∀ H' F', Stt K G σ H' F' ρ → Sm F F' → P a ρ H' F'
  | .exc x ρ => ∀ d H' F', Stt K G σ H' F' ρ → Sm F F' → ExcAt K F' d x.fs → W (x.c.v K) d σ H'
  | .stuck => False
theorem Good.mono {α : Type} {K : PySem.W.Frag} {G : Ent} {W : WX} {σ : St} {F F1 : Hp} {r : R α} {P : α → Ro → Hp → Hp → Prop} (s : Sm F F1) (h : Good K G W σ F r P) : Good K G W σ F1 r P := by
  cases r with
  | ok a ρ => exact fun H' F' S q => h H' F' S (s.tr q)
  | exc x ρ => exact fun d H' F' S q => h d H' F' S (s.tr q)
  | stuck => exact h
theorem Good.bind {α β : Type} {K : PySem.W.Frag} {G : Ent} {W : WX} {σ : St} {F : Hp} {r : R α} {k : α → Ro → R β} {P : α → Ro → Hp → Hp → Prop} {P' : β → Ro → Hp → Hp → Prop}
    (h : Good K G W σ F (r.bind k) P') (f : ∀ a ρ H' F', Stt K G σ H' F' ρ → Sm F F' → Good K G W σ F' (k a ρ) P' → P a ρ H' F') : Good K G W σ F r P := by
  cases r with
  | ok a ρ => exact fun H' F' S q => f a ρ H' F' S q (Good.mono q h)
  | exc x ρ => exact h
  | stuck => exact h

abbrev PD (K : PySem.W.Frag) (Q : VK) : D → Ro → Hp → Hp → Prop := fun d _ H' F' => ∀ v, Rep K F' v d → Q v H'
abbrev PB (Q : Bool → Hp → Prop) : Bool → Ro → Hp → Hp → Prop := fun b _ H' _ => Q b H'
abbrev PL (K : PySem.W.Frag) (Q : List V → Hp → Prop) : List D → Ro → Hp → Hp → Prop := fun ds _ H' F' => ∀ vs, Reps K F' vs ds → Q vs H'

/-- the expression e does what f says -/
def AE (X : Cx) (W : WX) (e : Expr) (f : M D) : Prop := ∃ t, PE X e t ∧ ∀ G σ H F ρ Q, Stt X.K G σ H F ρ → Good X.K G W σ F (f ρ) (PD X.K Q) → t σ H Q
def AT (X : Cx) (W : WX) (e : Expr) (f : M Bool) : Prop := ∃ t, PT X e t ∧ ∀ G σ H F ρ Q, Stt X.K G σ H F ρ → Good X.K G W σ F (f ρ) (PB Q) → t σ H Q
def AW (X : Cx) (W : WX) (e : Expr) (f : M Bool) : Prop := ∃ t, PW X e t ∧ ∀ G σ H F ρ Q, Stt X.K G σ H F ρ → Good X.K G W σ F (f ρ) (PB Q) → t σ H Q
def AA (X : Cx) (W : WX) (es : List Expr) (f : M (List D)) : Prop := ∃ t, PA X es t ∧ ∀ G σ H F ρ Q, Stt X.K G σ H F ρ → Good X.K G W σ F (f ρ) (PL X.K Q) → t σ H Q

section
variable {K : PySem.W.Frag} {G : Ent} {σ : St} {H F H' F' : Hp} {ρ : Ro}
theorem SlotOk.there {s : Option (Option V)} {sv : SV} (q : SlotOk K H F s sv) (ho : sv.isOwn = true) : ∃ a o, s = some (some (V.ref a)) ∧ H a = some o ∧ F a = none ∧ isX o = false := by
  cases sv with
  | un => cases ho
  | val d => cases ho
  | own p xs => obtain ⟨a, vs, e1, e2, e3, _⟩ := q; exact ⟨a, _, e1, e2, e3, rfl⟩
  | ins p C ns ds => obtain ⟨a, dx, vs, e1, e2, _, e3, _⟩ := q; exact ⟨a, _, e1, e2, e3, rfl⟩
  | dic p ks ds => obtain ⟨a, vs, e1, e2, _, e3, _⟩ := q; exact ⟨a, _, e1, e2, e3, rfl⟩
  | pin => cases ho
theorem SV.own_of_io {sv : SV} (h : sv.isHd = true) : sv.isOwn = true := by
  cases sv <;> first | rfl | cases h
/-- a slot as it stands, where the heap has grown -/
theorem SlotOk.grow {s : Option (Option V)} {sv : SV} (q : SlotOk K H F s sv) (h1 : SmT K H H') (h3 : Sm F F') (h4 : ∀ a o, F' a = some o → F a = some o ∨ Nn H a) : SlotOk K H' F' s sv := by
  have nF : ∀ a o, H a = some o → F a = none → isTb o = false → F' a = none := fun a o e1 e2 n => by
    cases e : F' a with
    | none => rfl
    | some u =>
      rcases h4 a u e with z | z
      · rw [e2] at z; cases z
      · exact (z.no e1 n).elim
  cases sv with
  | un => trivial
  | val d => obtain ⟨v, e, r⟩ := q; exact ⟨v, e, r.mono h3⟩
  | own p xs => obtain ⟨a, vs, e1, e2, e3, r⟩ := q; exact ⟨a, vs, e1, h1.k _ _ e2 rfl, nF _ _ e2 e3 rfl, r.mono h3⟩
  | ins p C ns ds => obtain ⟨a, dx, vs, e1, e2, e0, e3, r⟩ := q; exact ⟨a, dx, vs, e1, h1.k _ _ e2 rfl, e0, nF _ _ e2 e3 rfl, r.mono h3⟩
  | dic p ks ds => obtain ⟨a, vs, e1, e2, e0, e3, r⟩ := q; exact ⟨a, vs, e1, h1.k _ _ e2 rfl, e0, nF _ _ e2 e3 rfl, r.mono h3⟩
  | pin => trivial
theorem Stt.alive (S : Stt K G σ H F ρ) {a : Addr} {o : HO} (h : G.H0 a = some o) (n : isTb o = false) : ∃ u, H a = some u ∧ isTb u = false := by
  by_cases hi : ∃ i, (i, a) ∈ G.io
  · obtain ⟨i, hi⟩ := hi
    obtain ⟨e1, e2⟩ := S.io i a hi
    obtain ⟨b, u, e3, e4, _, e5⟩ := (S.at_ i).there (SV.own_of_io e2)
    rw [e1] at e3; cases e3
    exact ⟨u, e4, isX_tb e5⟩
  · exact ⟨o, S.same a o h (fun i z => hi ⟨i, z⟩) n, n⟩
theorem Stt.gone (S : Stt K G σ H F ρ) {a : Addr} (h : Nn H a) : Nn G.H0 a := fun o e => by
  cases n : isTb o with
  | true => rfl
  | false => obtain ⟨u, z, m⟩ := S.alive e n; exact (h.no z m).elim
theorem Stt.own_upd (S : Stt K G σ H F ρ) {i : Nat} {a : Addr} {o : HO} (ho : (ρ.getD i .un).isOwn = true) (e1 : σ[i]? = some (some (V.ref a))) : SmA K a H (upd H a o) := by
  obtain ⟨b, u, x1, x2, _, x3⟩ := (S.at_ i).there ho
  rw [e1] at x1; cases x1
  exact .upd x2 x3
/-- the heap has grown, all that was tracked stands -/
theorem Stt.grow (S : Stt K G σ H F ρ) (h1 : SmT K H H') (h2 : Sm F' H') (h3 : Sm F F') (h4 : ∀ a o, F' a = some o → F a = some o ∨ Nn H a) (h5 : Ftb F') : Stt K G σ H' F' ρ := by
  refine ⟨h2, h5, h1.t S.tb, fun a o e n m => h1.k _ _ (S.same a o e n m) m, S.ext.tr h3, fun a o e => (h4 a o e).elim (S.new a o) fun z => .inr (S.gone z), S.len, fun i => (S.at_ i).grow h1 h3 h4, S.dis, S.fresh, S.io, fun p hp => ?_, S.xx, S.xtd, S.pin⟩
  obtain ⟨e1, e2, e3, e4⟩ := S.xt p hp
  have n := isX_tb (S.xx p hp)
  refine ⟨h1.k _ _ e1 n, ?_, e3, e4⟩
  cases e : F' p.1 with
  | none => rfl
  | some u =>
    rcases h4 p.1 u e with z | z
    · rw [e2] at z; cases z
    · exact (z.no e1 n).elim
/-- a new object that stands still -/
theorem Stt.alloc (S : Stt K G σ H F ρ) {p : Addr} {o : HO} (hp : H p = none) (ho : isTb o = false := by rfl) : Stt K G σ (upd H p o) (upd F p o) ρ := by
  have fp : F p = none := S.sub.none hp
  refine S.grow (Sm.updN hp).t (fun a u h => ?_) (Sm.updN fp) (fun a u h => ?_) (S.ft.upd ho)
  · by_cases e : a = p
    · subst e; rw [upd_same] at h ⊢; exact h
    · rw [upd_ne e] at h ⊢; exact S.sub a u h
  · by_cases e : a = p
    · subst e; exact .inr (.of hp)
    · rw [upd_ne e] at h; exact .inl h
theorem Stt.allocF (S : Stt K G σ H F ρ) {p : Addr} {o : HO} (hp : H p = none) : Sm F (upd F p o) := Sm.updN (S.sub.none hp)

theorem getD_set {ρ : Ro} {i j : Nat} {x : SV} : (ρ.set i x).getD j .un = if i = j ∧ j < ρ.length then x else ρ.getD j .un := by
  rw [List.getD_eq_getElem?_getD, List.getD_eq_getElem?_getD, List.getElem?_set]
  by_cases h : i = j
  · subst h
    by_cases l : i < ρ.length
    · simp [l]
    · simp [l]
  · simp [h]
theorem get_setσ {σ : St} {i j : Nat} {x : Option V} : (σ.set i x)[j]? = if i = j ∧ j < σ.length then some x else σ[j]? := by
  rw [List.getElem?_set]
  by_cases h : i = j
  · subst h
    by_cases l : i < σ.length
    · simp [l]
    · simp [l]
  · simp [h]
/-- a slot is stored to -/
theorem Stt.set (S : Stt K G σ H F ρ) {i : Nat} {v : Option V} {sv : SV} (hio : (ρ.getD i .un).isIo = false) (q : SlotOk K H F (some v) sv) (hp : sv.isIo = false)
    (hn : sv.isOwn = true → ∀ a, v = some (V.ref a) → Nn G.H0 a ∧ (∀ j, (ρ.getD j .un).isOwn = true → σ[j]? ≠ some (some (V.ref a))) ∧ ∀ p ∈ G.xt, p.1 ≠ a) : Stt K G (σ.set i v) H F (ρ.set i sv) := by
  have noio : ∀ a, (i, a) ∉ G.io := fun a z => by
    have := SV.isHd_io (S.io i a z).2
    rw [hio] at this; cases this
  refine ⟨S.sub, S.ft, S.tb, S.same, S.ext, S.new, by simp [S.len], fun j => ?_, fun j k a h1 h2 h3 h4 => ?_, fun j a h1 h2 => ?_, fun j a hj => ?_, fun p hp => ?_, S.xx, S.xtd, fun j a hj => ?_⟩
  · rw [getD_set, get_setσ, S.len]
    by_cases c : i = j ∧ j < σ.length
    · rw [if_pos c, if_pos c]; exact q
    · rw [if_neg c, if_neg c]; exact S.at_ j
  · rw [getD_set, S.len] at h1 h2
    rw [get_setσ] at h3 h4
    by_cases c : i = j ∧ j < σ.length
    · rw [if_pos c] at h1 h3
      by_cases c' : i = k ∧ k < σ.length
      · exact c.1.symm.trans c'.1
      · rw [if_neg c'] at h2 h4
        exact absurd h4 ((hn h1 a (Option.some.inj h3)).2.1 k h2)
    · rw [if_neg c] at h1 h3
      by_cases c' : i = k ∧ k < σ.length
      · rw [if_pos c'] at h2 h4
        exact absurd h3 ((hn h2 a (Option.some.inj h4)).2.1 j h1)
      · rw [if_neg c'] at h2 h4
        exact S.dis j k a h1 h2 h3 h4
  · rw [getD_set, S.len] at h1
    rw [get_setσ] at h2
    by_cases c : i = j ∧ j < σ.length
    · rw [if_pos c] at h1 h2
      exact .inl (hn h1 a (Option.some.inj h2)).1
    · rw [if_neg c] at h1 h2
      exact S.fresh j a h1 h2
  · have ne : i ≠ j := fun e => noio a (e ▸ hj)
    obtain ⟨e1, e2⟩ := S.io j a hj
    rw [getD_set, get_setσ, if_neg (fun c => ne c.1), if_neg (fun c => ne c.1)]
    exact ⟨e1, e2⟩
  · obtain ⟨e1, e2, e3, e4⟩ := S.xt p hp
    refine ⟨e1, e2, e3, fun j h1 h2 => ?_⟩
    rw [getD_set, S.len] at h1
    rw [get_setσ] at h2
    by_cases c : i = j ∧ j < σ.length
    · rw [if_pos c] at h1 h2
      exact (hn h1 p.1 (Option.some.inj h2)).2.2 p hp rfl
    · rw [if_neg c] at h1 h2
      exact e4 j h1 h2
  · obtain ⟨e1, e2⟩ := S.pin j a hj
    have ne : i ≠ j := fun e => by subst e; rw [e2] at hio; cases hio
    rw [getD_set, get_setσ, if_neg (fun c => ne c.1), if_neg (fun c => ne c.1)]
    exact ⟨e1, e2⟩
theorem Stt.setVal (S : Stt K G σ H F ρ) {i : Nat} {v : V} {d : D} (hio : (ρ.getD i .un).isIo = false) (r : Rep K F v d) : Stt K G (σ.set i (some v)) H F (ρ.set i (.val d)) :=
  S.set hio ⟨v, rfl, r⟩ rfl fun h => by cases h
/-- a slot is forgotten (its value may be any) -/
theorem Stt.drop (S : Stt K G σ H F ρ) {i : Nat} {v : Option V} (hio : (ρ.getD i .un).isIo = false) : Stt K G (σ.set i v) H F (ρ.set i .un) :=
  S.set hio trivial rfl fun h => by cases h
/-- a list of one's own is let go: it stands still from now on -/
theorem Stt.freezeG (S : Stt K G σ H F ρ) {i : Nat} {a : Addr} {o : HO} {dv : D} (own : (ρ.getD i .un).isOwn = true) (hio : (ρ.getD i .un).isIo = false) (e1 : σ[i]? = some (some (V.ref a))) (e2 : H a = some o) (e3 : F a = none) (rl : Rep K (upd F a o) (.ref a) dv) (eo : isTb o = false := by rfl) :
    Stt K G σ H (upd F a o) (ρ.set i (.val dv)) := by
  have il : i < ρ.length := by
    rw [S.len]
    exact (List.getElem?_eq_some_iff.mp e1).1
  have sF : Sm F (upd F a o) := Sm.updN e3
  have noio : ∀ a, (i, a) ∉ G.io := fun a z => by
    have := SV.isHd_io (S.io i a z).2
    rw [hio] at this; cases this
  have h0 : Nn G.H0 a := (S.fresh i a own e1).elim id fun z => absurd z (noio a)
  have other : ∀ j b, i ≠ j → (ρ.getD j .un).isOwn = true → σ[j]? = some (some (V.ref b)) → b ≠ a := fun j b ne o e z => ne (S.dis i j a own o e1 (z ▸ e))
  refine ⟨fun b u h => ?_, S.ft.upd eo, S.tb, S.same, S.ext.tr sF, fun b u h => ?_, by simp [S.len], fun j => ?_, fun j k b h1 h2 => ?_, fun j b h1 h2 => ?_, fun j b hj => ?_, fun p hp => ?_, S.xx, S.xtd, fun j b hj => ?_⟩
  · by_cases e : b = a
    · subst e; rw [upd_same] at h; cases h; exact e2
    · rw [upd_ne e] at h; exact S.sub b u h
  · by_cases e : b = a
    · subst e; exact .inr h0
    · rw [upd_ne e] at h; exact S.new b u h
  · rw [getD_set]
    by_cases c : i = j ∧ j < ρ.length
    · rw [if_pos c, ← c.1]; exact ⟨_, e1, rl⟩
    · rw [if_neg c]
      have ne : i ≠ j := fun e => c ⟨e, e ▸ il⟩
      have q := S.at_ j
      cases hs : ρ.getD j .un with
      | un => trivial
      | val d => rw [hs] at q; obtain ⟨v, e, r⟩ := q; exact ⟨v, e, r.mono sF⟩
      | own p ys =>
        have o := fun b => other j b ne
        rw [hs] at q o
        obtain ⟨b, ws, f1, f2, f3, r'⟩ := q
        exact ⟨b, ws, f1, f2, by rw [upd_ne (o b rfl f1)]; exact f3, r'.mono sF⟩
      | ins p C ns ds =>
        have o := fun b => other j b ne
        rw [hs] at q o
        obtain ⟨b, dx, ws, f1, f2, f0, f3, r'⟩ := q
        exact ⟨b, dx, ws, f1, f2, f0, by rw [upd_ne (o b rfl f1)]; exact f3, r'.mono sF⟩
      | dic p ks ds =>
        have o := fun b => other j b ne
        rw [hs] at q o
        obtain ⟨b, ws, f1, f2, f0, f3, r'⟩ := q
        exact ⟨b, ws, f1, f2, f0, by rw [upd_ne (o b rfl f1)]; exact f3, r'.mono sF⟩
      | pin => trivial
  · rw [getD_set] at h1 h2
    by_cases c : i = j ∧ j < ρ.length
    · rw [if_pos c] at h1; cases h1
    · rw [if_neg c] at h1
      by_cases c' : i = k ∧ k < ρ.length
      · rw [if_pos c'] at h2; cases h2
      · rw [if_neg c'] at h2; exact S.dis j k b h1 h2
  · rw [getD_set] at h1
    by_cases c : i = j ∧ j < ρ.length
    · rw [if_pos c] at h1; cases h1
    · rw [if_neg c] at h1; exact S.fresh j b h1 h2
  · have ne : i ≠ j := fun e => noio b (e ▸ hj)
    obtain ⟨e1, e2⟩ := S.io j b hj
    rw [getD_set, if_neg (fun c => ne c.1)]
    exact ⟨e1, e2⟩
  · obtain ⟨f1, f2, f3, f4⟩ := S.xt p hp
    have pa : p.1 ≠ a := fun e => f4 i own (e ▸ e1)
    refine ⟨f1, by rw [upd_ne pa]; exact f2, f3, fun j h1 h2 => ?_⟩
    rw [getD_set] at h1
    by_cases c : i = j ∧ j < ρ.length
    · rw [if_pos c] at h1; cases h1
    · rw [if_neg c] at h1; exact f4 j h1 h2
  · obtain ⟨e1, e2⟩ := S.pin j b hj
    have ne : i ≠ j := fun e => by subst e; rw [e2] at hio; cases hio
    rw [getD_set, if_neg (fun c => ne c.1)]
    exact ⟨e1, e2⟩
theorem Stt.freezeX (S : Stt K G σ H F ρ) {i : Nat} {xs : List D} (hi : ρ.getD i .un = .own false xs) : ∃ a vs, σ[i]? = some (some (V.ref a)) ∧ H a = some (.lst vs) ∧ F a = none ∧ Reps K F vs xs ∧ Stt K G σ H (upd F a (.lst vs)) (ρ.set i (.val (.lst xs))) ∧ Sm F (upd F a (.lst vs)) ∧ Rep K (upd F a (.lst vs)) (.ref a) (.lst xs) := by
  have q := S.at_ i
  rw [hi] at q
  obtain ⟨a, vs, e1, e2, e3, r⟩ := q
  have rl : Rep K (upd F a (.lst vs)) (.ref a) (.lst xs) := .lst upd_same (r.mono (Sm.updN e3))
  exact ⟨a, vs, e1, e2, e3, r, S.freezeG (by rw [hi]; rfl) (by rw [hi]; rfl) e1 e2 e3 rl, Sm.updN e3, rl⟩
theorem Stt.freezeD (S : Stt K G σ H F ρ) {i : Nat} {ks : List Key} {xs : List D} (hi : ρ.getD i .un = .dic false ks xs) : ∃ a F', σ[i]? = some (some (V.ref a)) ∧ Stt K G σ H F' (ρ.set i (.val (.dct ks xs))) ∧ Sm F F' ∧ Rep K F' (.ref a) (.dct ks xs) := by
  have q := S.at_ i
  rw [hi] at q
  obtain ⟨a, vs, e1, e2, e0, e3, r⟩ := q
  have rl : Rep K (upd F a (.dK (ks.zip vs))) (.ref a) (.dct ks xs) := .dct upd_same e0 (r.mono (Sm.updN e3))
  exact ⟨a, _, e1, S.freezeG (by rw [hi]; rfl) (by rw [hi]; rfl) e1 e2 e3 rl, Sm.updN e3, rl⟩
theorem Stt.freeze (S : Stt K G σ H F ρ) {i : Nat} {xs : List D} (hi : ρ.getD i .un = .own false xs) : ∃ a F', σ[i]? = some (some (V.ref a)) ∧ Stt K G σ H F' (ρ.set i (.val (.lst xs))) ∧ Sm F F' ∧ Rep K F' (.ref a) (.lst xs) :=
  let ⟨a, vs, e1, _, _, _, s, f, r⟩ := S.freezeX hi
  ⟨a, _, e1, s, f, r⟩
/-- what is one's own at slot i is changed in place (by oneself or by a callee); the heap may have grown beside -/
theorem Stt.change (S : Stt K G σ H F ρ) {i : Nat} {a : Addr} {sv : SV} (ho : (ρ.getD i .un).isOwn = true) (e1 : σ[i]? = some (some (V.ref a)))
    (h1 : SmA K a H H') (h2 : Sm F' H') (h3 : Sm F F') (h4 : ∀ b o, F' b = some o → F b = some o ∨ Nn H b) (h5 : Ftb F')
    (q : SlotOk K H' F' (some (some (V.ref a))) sv) (hso : sv.isOwn = true) (hsi : sv.isHd = (ρ.getD i .un).isHd) : Stt K G σ H' F' (ρ.set i sv) := by
  have il : i < ρ.length := by
    rw [S.len]
    exact (List.getElem?_eq_some_iff.mp e1).1
  obtain ⟨a', oa, ea, ha, fa, _⟩ := (S.at_ i).there ho
  rw [e1] at ea; cases ea
  have other : ∀ j b, i ≠ j → (ρ.getD j .un).isOwn = true → σ[j]? = some (some (V.ref b)) → b ≠ a := fun j b ne o e z => ne (S.dis i j a ho o e1 (z ▸ e))
  have nF : ∀ b o, H b = some o → F b = none → isTb o = false → F' b = none := fun b o e1 e2 n => by
    cases e : F' b with
    | none => rfl
    | some u =>
      rcases h4 b u e with z | z
      · rw [e2] at z; cases z
      · exact (z.no e1 n).elim
  refine ⟨h2, h5, h1.t S.tb, fun b o e n m => ?_, S.ext.tr h3, fun b o e => (h4 b o e).elim (S.new b o) fun z => .inr (S.gone z), by simp [S.len], fun j => ?_, fun j k b k1 k2 => ?_, fun j b k1 k2 => ?_, fun j b hj => ?_, fun p hp => ?_, S.xx, S.xtd, fun j b hj => ?_⟩
  · by_cases eb : b = a
    · subst eb
      rcases S.fresh i b ho e1 with z | z
      · exact (z.no e m).elim
      · exact absurd z (n i)
    · exact h1.k b o eb (S.same b o e n m) m
  · rw [getD_set]
    by_cases c : i = j ∧ j < ρ.length
    · rw [if_pos c, ← c.1, e1]; exact q
    · rw [if_neg c]
      have ne : i ≠ j := fun e => c ⟨e, e ▸ il⟩
      have q := S.at_ j
      cases hs : ρ.getD j .un with
      | un => trivial
      | val d => rw [hs] at q; obtain ⟨v, e, r⟩ := q; exact ⟨v, e, r.mono h3⟩
      | own p ys =>
        have o := fun b => other j b ne
        rw [hs] at q o
        obtain ⟨b, ws, f1, f2, f3, r'⟩ := q
        exact ⟨b, ws, f1, h1.k _ _ (o b rfl f1) f2 rfl, nF _ _ f2 f3 rfl, r'.mono h3⟩
      | ins p C ns ds =>
        have o := fun b => other j b ne
        rw [hs] at q o
        obtain ⟨b, dx, ws, f1, f2, f0, f3, r'⟩ := q
        exact ⟨b, dx, ws, f1, h1.k _ _ (o b rfl f1) f2 rfl, f0, nF _ _ f2 f3 rfl, r'.mono h3⟩
      | dic p ks ds =>
        have o := fun b => other j b ne
        rw [hs] at q o
        obtain ⟨b, ws, f1, f2, f0, f3, r'⟩ := q
        exact ⟨b, ws, f1, h1.k _ _ (o b rfl f1) f2 rfl, f0, nF _ _ f2 f3 rfl, r'.mono h3⟩
      | pin => trivial
  · rw [getD_set] at k1 k2
    have p1 : (ρ.getD j .un).isOwn = true := by
      by_cases c : i = j ∧ j < ρ.length
      · rw [← c.1]; exact ho
      · rw [if_neg c] at k1; exact k1
    have p2 : (ρ.getD k .un).isOwn = true := by
      by_cases c : i = k ∧ k < ρ.length
      · rw [← c.1]; exact ho
      · rw [if_neg c] at k2; exact k2
    exact S.dis j k b p1 p2
  · have p1 : (ρ.getD j .un).isOwn = true := by
      rw [getD_set] at k1
      by_cases c : i = j ∧ j < ρ.length
      · rw [← c.1]; exact ho
      · rw [if_neg c] at k1; exact k1
    exact S.fresh j b p1 k2
  · obtain ⟨f1, f2⟩ := S.io j b hj
    refine ⟨f1, ?_⟩
    rw [getD_set]
    by_cases c : i = j ∧ j < ρ.length
    · rw [if_pos c, hsi, c.1]; exact f2
    · rw [if_neg c]; exact f2
  · obtain ⟨f1, f2, f3, f4⟩ := S.xt p hp
    have pa : p.1 ≠ a := fun e => f4 i ho (e ▸ e1)
    refine ⟨h1.k _ _ pa f1 (isX_tb (S.xx p hp)), nF _ _ f1 f2 (isX_tb (S.xx p hp)), f3, fun j k1 => ?_⟩
    have p1 : (ρ.getD j .un).isOwn = true := by
      rw [getD_set] at k1
      by_cases c : i = j ∧ j < ρ.length
      · rw [← c.1]; exact ho
      · rw [if_neg c] at k1; exact k1
    exact f4 j p1
  · obtain ⟨x1, x2⟩ := S.pin j b hj
    have ne : i ≠ j := fun e => by subst e; rw [x2] at ho; cases ho
    rw [getD_set, if_neg (fun c => ne c.1)]
    exact ⟨x1, x2⟩
end

section
variable {K : PySem.W.Frag} {H0 F0 : Hp} {io : List (Nat × Addr)} {xt : List (Addr × HO)} {σ : St} {H F : Hp} {ρ : Ro}
/-- a new object that waits -/
theorem Stt.xtNew (S : Stt K ⟨H0, F0, io, xt⟩ σ H F ρ) {a : Addr} {o : HO} (ha : H a = none) (ho : isX o = false := by rfl) : Stt K ⟨H0, F0, io, (a, o) :: xt⟩ σ (upd H a o) F ρ := by
  have fa := S.sub.none ha
  have S1 : Stt K ⟨H0, F0, io, xt⟩ σ (upd H a o) F ρ := S.grow (Sm.updN ha).t (S.sub.tr (Sm.updN ha)) Sm.refl (fun _ _ e => .inl e) S.ft
  refine ⟨S1.sub, S1.ft, S1.tb, S1.same, S1.ext, S1.new, S1.len, S1.at_, S1.dis, S1.fresh, S1.io, fun p hp => ?_, fun p hp => ?_, ?_, S1.pin⟩
  · rcases List.mem_cons.mp hp with rfl | hp
    · refine ⟨upd_same, fa, S.gone (.of ha), fun i h1 h2 => ?_⟩
      obtain ⟨b, u, e1, e2, _⟩ := (S.at_ i).there h1
      rw [h2] at e1; cases e1
      rw [ha] at e2; cases e2
    · exact S1.xt p hp
  · rcases List.mem_cons.mp hp with rfl | hp
    · exact ho
    · exact S.xx p hp
  · refine List.nodup_cons.mpr ⟨fun hm => ?_, S.xtd⟩
    obtain ⟨p, hp, e⟩ := List.mem_map.mp hm
    have := (S.xt p hp).1
    rw [e, ha] at this; cases this
/-- an object that has come, of one's own -/
theorem Stt.xtAdd {H1 F1 : Hp} (S : Stt K ⟨H0, F0, io, xt⟩ σ H1 F1 ρ) {a : Addr} {o : HO} (h1 : SmT K H1 H) (h2 : Sm F H) (h3 : Sm F1 F) (h4 : ∀ b u, F b = some u → F1 b = some u ∨ Nn H1 b) (h5 : Ftb F) (ha : H a = some o) (fa : F a = none) (na : Nn H1 a) (ho : isX o = false := by rfl) : Stt K ⟨H0, F0, io, (a, o) :: xt⟩ σ H F ρ := by
  have S1 := S.grow h1 h2 h3 h4 h5
  refine ⟨S1.sub, S1.ft, S1.tb, S1.same, S1.ext, S1.new, S1.len, S1.at_, S1.dis, S1.fresh, S1.io, fun p hp => ?_, fun p hp => ?_, ?_, S1.pin⟩
  · rcases List.mem_cons.mp hp with rfl | hp
    · refine ⟨ha, fa, S.gone na, fun i h1 h2 => ?_⟩
      obtain ⟨b, u, e1, e2, _, e5⟩ := (S.at_ i).there h1
      rw [h2] at e1; cases e1
      exact na.no e2 (isX_tb e5)
    · exact S1.xt p hp
  · rcases List.mem_cons.mp hp with rfl | hp
    · exact ho
    · exact S.xx p hp
  · refine List.nodup_cons.mpr ⟨fun hm => ?_, S.xtd⟩
    obtain ⟨p, hp, e⟩ := List.mem_map.mp hm
    have := (S.xt p hp).1
    rw [e] at this
    exact na.no this (isX_tb (S.xx p hp))
/-- it is changed -/
theorem Stt.xtUpd {a : Addr} {o o' : HO} (S : Stt K ⟨H0, F0, io, (a, o) :: xt⟩ σ H F ρ) (ho : isX o' = false := by rfl) : Stt K ⟨H0, F0, io, (a, o') :: xt⟩ σ (upd H a o') F ρ := by
  obtain ⟨e1, e2, e3, e4⟩ := S.xt (a, o) (List.mem_cons_self ..)
  have nd := List.nodup_cons.mp S.xtd
  have oth : ∀ i, (ρ.getD i .un).isOwn = true → ∀ b, σ[i]? = some (some (V.ref b)) → b ≠ a := fun i h b hb e => e4 i h (e ▸ hb)
  refine ⟨fun b u h => ?_, S.ft, tabs_upd (u := o) S.tb (fun v e => by rw [e1] at e; cases e; exact S.xx _ (List.mem_cons_self ..)), fun b u h n m => ?_, S.ext, S.new, S.len, fun i => ?_, S.dis, S.fresh, S.io, fun p hp => ?_, fun p hp => ?_, S.xtd, S.pin⟩
  · rw [upd_ne (fun e => by subst e; rw [e2] at h; cases h)]; exact S.sub b u h
  · rw [upd_ne (fun e => by subst e; exact e3.no h m)]; exact S.same b u h n m
  · have q := S.at_ i
    have ot := oth i
    cases hs : ρ.getD i .un with
    | un => trivial
    | val d => rw [hs] at q; exact q
    | own p ys =>
      rw [hs] at q ot
      obtain ⟨b, ws, f1, f2, f3, r⟩ := q
      exact ⟨b, ws, f1, by rw [upd_ne (ot rfl b f1)]; exact f2, f3, r⟩
    | ins p C ns ds =>
      rw [hs] at q ot
      obtain ⟨b, dx, ws, f1, f2, f0, f3, r⟩ := q
      exact ⟨b, dx, ws, f1, by rw [upd_ne (ot rfl b f1)]; exact f2, f0, f3, r⟩
    | dic p ks ds =>
      rw [hs] at q ot
      obtain ⟨b, ws, f1, f2, f0, f3, r⟩ := q
      exact ⟨b, ws, f1, by rw [upd_ne (ot rfl b f1)]; exact f2, f0, f3, r⟩
    | pin => trivial
  · rcases List.mem_cons.mp hp with rfl | hp
    · exact ⟨upd_same, e2, e3, e4⟩
    · obtain ⟨f1, f2, f3, f4⟩ := S.xt p (List.mem_cons_of_mem _ hp)
      have ne : p.1 ≠ a := fun e => nd.1 (List.mem_map.mpr ⟨p, hp, e⟩)
      exact ⟨by rw [upd_ne ne]; exact f1, f2, f3, f4⟩
  · rcases List.mem_cons.mp hp with rfl | hp
    · exact ho
    · exact S.xx p (List.mem_cons_of_mem _ hp)
/-- it stands still from now on -/
theorem Stt.xtFreeze {a : Addr} {o : HO} (S : Stt K ⟨H0, F0, io, (a, o) :: xt⟩ σ H F ρ) : Stt K ⟨H0, F0, io, xt⟩ σ H (upd F a o) ρ ∧ Sm F (upd F a o) := by
  obtain ⟨e1, e2, e3, e4⟩ := S.xt (a, o) (List.mem_cons_self ..)
  have nd := List.nodup_cons.mp S.xtd
  have sF : Sm F (upd F a o) := Sm.updN e2
  have oth : ∀ i, (ρ.getD i .un).isOwn = true → ∀ b, σ[i]? = some (some (V.ref b)) → b ≠ a := fun i h b hb e => e4 i h (e ▸ hb)
  refine ⟨⟨fun b u h => ?_, S.ft.upd (isX_tb (S.xx (a, o) (List.mem_cons_self ..))), S.tb, S.same, S.ext.tr sF, fun b u h => ?_, S.len, fun i => ?_, S.dis, S.fresh, S.io, fun p hp => ?_, fun p hp => S.xx p (List.mem_cons_of_mem _ hp), nd.2, S.pin⟩, sF⟩
  · by_cases e : b = a
    · subst e; rw [upd_same] at h; cases h; exact e1
    · rw [upd_ne e] at h; exact S.sub b u h
  · by_cases e : b = a
    · subst e; exact .inr e3
    · rw [upd_ne e] at h; exact S.new b u h
  · have q := S.at_ i
    have ot := oth i
    cases hs : ρ.getD i .un with
    | un => trivial
    | val d => rw [hs] at q; obtain ⟨v, e, r⟩ := q; exact ⟨v, e, r.mono sF⟩
    | own p ys =>
      rw [hs] at q ot
      obtain ⟨b, ws, f1, f2, f3, r⟩ := q
      exact ⟨b, ws, f1, f2, by rw [upd_ne (ot rfl b f1)]; exact f3, r.mono sF⟩
    | ins p C ns ds =>
      rw [hs] at q ot
      obtain ⟨b, dx, ws, f1, f2, f0, f3, r⟩ := q
      exact ⟨b, dx, ws, f1, f2, f0, by rw [upd_ne (ot rfl b f1)]; exact f3, r.mono sF⟩
    | dic p ks ds =>
      rw [hs] at q ot
      obtain ⟨b, ws, f1, f2, f0, f3, r⟩ := q
      exact ⟨b, ws, f1, f2, f0, by rw [upd_ne (ot rfl b f1)]; exact f3, r.mono sF⟩
    | pin => trivial
  · obtain ⟨f1, f2, f3, f4⟩ := S.xt p (List.mem_cons_of_mem _ hp)
    have ne : p.1 ≠ a := fun e => nd.1 (List.mem_map.mpr ⟨p, hp, e⟩)
    exact ⟨f1, by rw [upd_ne ne]; exact f2, f3, f4⟩
/-- it comes to a slot -/
theorem Stt.xtSlot {a : Addr} {o : HO} {i : Nat} {sv : SV} (S : Stt K ⟨H0, F0, io, (a, o) :: xt⟩ σ H F ρ) (hio : (ρ.getD i .un).isIo = false) (q : SlotOk K H F (some (some (V.ref a))) sv) (hp : sv.isIo = false) :
    Stt K ⟨H0, F0, io, xt⟩ (σ.set i (some (V.ref a))) H F (ρ.set i sv) := by
  obtain ⟨e1, e2, e3, e4⟩ := S.xt (a, o) (List.mem_cons_self ..)
  have nd := List.nodup_cons.mp S.xtd
  have S0 : Stt K ⟨H0, F0, io, xt⟩ σ H F ρ := ⟨S.sub, S.ft, S.tb, S.same, S.ext, S.new, S.len, S.at_, S.dis, S.fresh, S.io, fun p hp => S.xt p (List.mem_cons_of_mem _ hp), fun p hp => S.xx p (List.mem_cons_of_mem _ hp), nd.2, S.pin⟩
  refine S0.set hio q hp fun _ b hb => ?_
  cases hb
  exact ⟨e3, e4, fun p hp e => nd.1 (List.mem_map.mpr ⟨p, hp, e⟩)⟩
theorem Stt.xtDrop {a : Addr} {o : HO} (S : Stt K ⟨H0, F0, io, (a, o) :: xt⟩ σ H F ρ) : Stt K ⟨H0, F0, io, xt⟩ σ H F ρ :=
  ⟨S.sub, S.ft, S.tb, S.same, S.ext, S.new, S.len, S.at_, S.dis, S.fresh, S.io, fun p hp => S.xt p (List.mem_cons_of_mem _ hp), fun p hp => S.xx p (List.mem_cons_of_mem _ hp), (List.nodup_cons.mp S.xtd).2, S.pin⟩
end

/-! ### what a def promises -/
/-- what is known behind a call: all that was tracked stands -/
structure Aft (K : PySem.W.Frag) (H F H' F' : Hp) : Prop where
  h : SmT K H H'
  sub : Sm F' H'
  f : Sm F F'
  new : ∀ a o, F' a = some o → F a = some o ∨ Nn H a
  ft : Ftb F → Ftb F'
theorem Stt.aft {K : PySem.W.Frag} {G : Ent} {σ : St} {H F H' F' : Hp} {ρ : Ro} (S : Stt K G σ H F ρ) (A : Aft K H F H' F') : Stt K G σ H' F' ρ := S.grow A.h A.sub A.f A.new (A.ft S.ft)
def GoodF (K : PySem.W.Frag) (H F : Hp) (r : FR D) (Q : VK) (E : XK) : Prop := match r with
  | .ok d => ∀ v H' F', Aft K H F H' F' → Rep K F' v d → Q v H'
  | .exc x => ∀ d H' F', Aft K H F H' F' → ExcAt K F' d x.fs → E (x.c.v K) d H'
  | .stuck => False
/-- a def of n values -/
structure Pre (K : PySem.W.Frag) (F H : Hp) : Prop where
  sub : Sm F H
  ft : Ftb F
  tb : LamX.Tabs (Lam.T K) H
theorem Stt.pre {K : PySem.W.Frag} {G : Ent} {σ : St} {H F : Hp} {ρ : Ro} (S : Stt K G σ H F ρ) : Pre K F H := ⟨S.sub, S.ft, S.tb⟩
def PSp (K : PySem.W.Frag) (n : Nat) (m : List D → FR D) : Sp := fun vs H Q E => vs.length = n ∧ ∃ F ds, Pre K F H ∧ Reps K F vs ds ∧ GoodF K H F (m ds) Q E
/-- a def that gives a new list -/
def GoodN (K : PySem.W.Frag) (H F : Hp) (r : FR (List D)) (Q : VK) (E : XK) : Prop := match r with
  | .ok xs => ∀ a ws H' F', Aft K H F H' F' → H' a = some (.lst ws) ∧ F' a = none ∧ Nn H a → Reps K F' ws xs → Q (.ref a) H'
  | .exc x => ∀ d H' F', Aft K H F H' F' → ExcAt K F' d x.fs → E (x.c.v K) d H'
  | .stuck => False
def NSp (K : PySem.W.Frag) (n : Nat) (m : List D → FR (List D)) : Sp := fun vs H Q E => vs.length = n ∧ ∃ F ds, Pre K F H ∧ Reps K F vs ds ∧ GoodN K H F (m ds) Q E
/-- .. behind a call that may change the object at a -/
structure AftIo (K : PySem.W.Frag) (a : Addr) (sv : SV) (H F H' F' : Hp) : Prop where
  h : SmA K a H H'
  sub : Sm F' H'
  f : Sm F F'
  new : ∀ b o, F' b = some o → F b = some o ∨ Nn H b
  ft : Ftb F → Ftb F'
  at_ : SlotOk K H' F' (some (some (V.ref a))) sv
  own : sv.isHd = true
inductive IR where
  | ok (d : D) (sv : SV)
  | exc (x : Ex) (sv : SV)
  | stuck
def GoodI (K : PySem.W.Frag) (a : Addr) (H F : Hp) (r : IR) (Q : VK) (E : XK) : Prop := match r with
  | .ok d sv => ∀ v H' F', AftIo K a sv H F H' F' → Rep K F' v d → Q v H'
  | .exc x sv => ∀ d H' F', AftIo K a sv H F H' F' → ExcAt K F' d x.fs → E (x.c.v K) d H'
  | .stuck => False
/-- a def of n values, the first of which it may change -/
def ISp (K : PySem.W.Frag) (n : Nat) (m : SV → List D → IR) : Sp := fun vs H Q E => vs.length = n + 1 ∧ ∃ F a ws sv ds, vs = V.ref a :: ws ∧ Pre K F H ∧ SlotOk K H F (some (some (V.ref a))) sv ∧ sv.isHd = true ∧ Reps K F ws ds ∧ GoodI K a H F (m sv ds) Q E

/-! ### blocks -/
inductive Fl where
  | nx
  | rt (d : D)
  | rn (ds : List D)
  | bk
  | ct
def GoodS (K : PySem.W.Frag) (G : Ent) (W : WX) (F : Hp) (r : R Fl) (Dn : Ends) : Prop := match r with
  | .ok .nx ρ => ∀ σ' H' F', Stt K G σ' H' F' ρ → Sm F F' → Dn.nx σ' H'
  | .ok (.rt d) ρ => ∀ v σ' H' F', Stt K G σ' H' F' ρ → Sm F F' → Rep K F' v d → Dn.rt v H'
  | .ok (.rn ds) ρ => ∀ a vs σ' H' F', Stt K ⟨G.H0, G.F0, G.io, (a, .lst vs) :: G.xt⟩ σ' H' F' ρ → Sm F F' → Reps K F' vs ds → Dn.rt (.ref a) H'
  | .ok .bk ρ => ∀ σ' H' F', Stt K G σ' H' F' ρ → Sm F F' → Dn.bk σ' H'
  | .ok .ct ρ => ∀ σ' H' F', Stt K G σ' H' F' ρ → Sm F F' → Dn.ct σ' H'
  | .exc x ρ => ∀ d σ' H' F', Stt K G σ' H' F' ρ → Sm F F' → ExcAt K F' d x.fs → W (x.c.v K) d σ' H'
  | .stuck => False
theorem GoodS.mono {K : PySem.W.Frag} {G : Ent} {W : WX} {F F1 : Hp} {r : R Fl} {Dn : Ends} (s : Sm F F1) (h : GoodS K G W F r Dn) : GoodS K G W F1 r Dn := by
  cases r with
  | ok a ρ =>
    cases a with
    | nx => exact fun σ' H' F' S q => h σ' H' F' S (s.tr q)
    | rt d => exact fun v σ' H' F' S q => h v σ' H' F' S (s.tr q)
    | rn ds => exact fun a vs σ' H' F' S q => h a vs σ' H' F' S (s.tr q)
    | bk => exact fun σ' H' F' S q => h σ' H' F' S (s.tr q)
    | ct => exact fun σ' H' F' S q => h σ' H' F' S (s.tr q)
  | exc x ρ => exact fun d σ' H' F' S q => h d σ' H' F' S (s.tr q)
  | stuck => exact h
/-- an expression's part of a statement -/
theorem GoodS.bind {α : Type} {K : PySem.W.Frag} {G : Ent} {W : WX} {σ : St} {F : Hp} {r : R α} {k : α → Ro → R Fl} {P : α → Ro → Hp → Hp → Prop} {Dn : Ends}
    (h : GoodS K G W F (r.bind k) Dn) (f : ∀ a ρ H' F', Stt K G σ H' F' ρ → Sm F F' → GoodS K G W F' (k a ρ) Dn → P a ρ H' F') : Good K G W σ F r P := by
  cases r with
  | ok a ρ => exact fun H' F' S q => f a ρ H' F' S q (GoodS.mono q h)
  | exc x ρ => exact fun d H' F' S q e => h d σ H' F' S q e
  | stuck => exact h
def AS (X : Cx) (W : WX) (st : Stmt) (f : M Fl) : Prop := ∃ t, PS X st t ∧ ∀ G σ H F ρ Dn, Stt X.K G σ H F ρ → GoodS X.K G W F (f ρ) Dn → t Dn σ H
def AB (X : Cx) (W : WX) (st : List Stmt) (f : M Fl) : Prop := ∃ t, PSs X st t ∧ ∀ G σ H F ρ Dn, Stt X.K G σ H F ρ → GoodS X.K G W F (f ρ) Dn → t Dn σ H

/-- a def's run over values -/
def runF (n : Nat) (g : M Fl) (ds : List D) : FR D := match g (ds.map .val ++ List.replicate (n - ds.length) .un) with
  | .ok .nx _ => .ok .non
  | .ok (.rt d) _ => .ok d
  | .exc x _ => .exc x
  | _ => .stuck
/-- .. of a def that gives a new list -/
def runN (n : Nat) (g : M Fl) (ds : List D) : FR (List D) := match g (ds.map .val ++ List.replicate (n - ds.length) .un) with
  | .ok (.rn xs) _ => .ok xs
  | .exc x _ => .exc x
  | _ => .stuck
def runI (n : Nat) (g : M Fl) (sv : SV) (ds : List D) : IR := match g (sv :: ds.map .val ++ List.replicate (n - (ds.length + 1)) .un) with
  | .ok .nx ρ => .ok .non (ρ.getD 0 .un)
  | .ok (.rt d) ρ => .ok d (ρ.getD 0 .un)
  | .exc x ρ => .exc x (ρ.getD 0 .un)
  | _ => .stuck
end PinS
section
variable {K : PySem.W.Frag}
theorem getD_app {α : Type} {l l' : List α} {i : Nat} {x : α} : (l ++ l').getD i x = if i < l.length then l.getD i x else l'.getD (i - l.length) x := by
  rw [List.getD_eq_getElem?_getD, List.getElem?_append]
  split <;> simp [List.getD_eq_getElem?_getD]
theorem get_app {α : Type} {l l' : List α} {i : Nat} : (l ++ l')[i]? = if i < l.length then l[i]? else l'[i - l.length]? := List.getElem?_append
theorem getD_rep {n i : Nat} : (List.replicate n SV.un).getD i .un = .un := by
  rw [List.getD_eq_getElem?_getD, List.getElem?_replicate]
  split <;> rfl
theorem stt_start {H F : Hp} {N : List Str} {vs : List V} {ds : List D} (s : Pre K F H) (r : Reps K F vs ds) : Stt K ⟨H, F, [], []⟩ (L2.start N vs) H F (ds.map .val ++ List.replicate (N.length - ds.length) SV.un) := by
  have le := r.length
  have noOwn : ∀ i, ((ds.map SV.val ++ List.replicate (N.length - ds.length) SV.un).getD i .un).isOwn = false := fun i => by
    rw [getD_app]
    split
    · rename_i h
      rw [List.length_map] at h
      rw [List.getD_eq_getElem?_getD, List.getElem?_map, List.getElem?_eq_getElem h]; rfl
    · rw [getD_rep]; rfl
  refine ⟨s.sub, s.ft, s.tb, fun a o h _ _ => h, Sm.refl, fun a o h => .inl h, by simp [L2.start, le], fun i => ?_, fun i j a h => ?_, fun i a h => ?_, fun i a h => by simp at h, fun p h => by simp at h, fun p h => by simp at h, .nil, fun i v h => by cases (show (i, v) ∈ ([] : List (Nat × V)) from h)⟩
  · unfold L2.start
    rw [getD_app, get_app, List.length_map, List.length_map, le]
    by_cases h : i < ds.length
    · rw [if_pos h, if_pos h]
      obtain ⟨v, e, q⟩ := r.get i (List.getElem?_eq_getElem h)
      rw [List.getD_eq_getElem?_getD, List.getElem?_map, List.getElem?_map, List.getElem?_eq_getElem h, e]
      exact ⟨v, rfl, q⟩
    · rw [if_neg h, if_neg h, getD_rep]; trivial
  · rw [noOwn] at h; cases h
  · rw [noOwn] at h; cases h
theorem stt_startI {H F : Hp} {N : List Str} {a : Addr} {vs : List V} {sv : SV} {ds : List D} (s : Pre K F H) (q : SlotOk K H F (some (some (V.ref a))) sv) (hio : sv.isHd = true) (r : Reps K F vs ds) :
    Stt K ⟨H, F, [(0, a)], []⟩ (L2.start N (V.ref a :: vs)) H F (sv :: ds.map .val ++ List.replicate (N.length - (ds.length + 1)) SV.un) := by
  have le := r.length
  have noOwn : ∀ i, ((sv :: ds.map SV.val ++ List.replicate (N.length - (ds.length + 1)) SV.un).getD (i + 1) .un).isOwn = false := fun i => by
    show ((ds.map SV.val ++ List.replicate (N.length - (ds.length + 1)) SV.un).getD i .un).isOwn = false
    rw [getD_app]
    split
    · rename_i h
      rw [List.length_map] at h
      rw [List.getD_eq_getElem?_getD, List.getElem?_map, List.getElem?_eq_getElem h]; rfl
    · rw [getD_rep]; rfl
  refine ⟨s.sub, s.ft, s.tb, fun a o h _ _ => h, Sm.refl, fun a o h => .inl h, by simp [L2.start, le], fun i => ?_, fun i j b h h' e1 e2 => ?_, fun i b h e => ?_, fun i b h => ?_, fun p h => by simp at h, fun p h => by simp at h, .nil, fun i v h => by cases (show (i, v) ∈ ([] : List (Nat × V)) from h)⟩
  · cases i with
    | zero => exact q
    | succ i =>
      show SlotOk K H F ((vs.map some ++ List.replicate (N.length - (vs.length + 1)) (none : Option V))[i]?) ((ds.map SV.val ++ List.replicate (N.length - (ds.length + 1)) SV.un).getD i .un)
      rw [getD_app, get_app, List.length_map, List.length_map, le]
      by_cases h : i < ds.length
      · rw [if_pos h, if_pos h]
        obtain ⟨v, e, q⟩ := r.get i (List.getElem?_eq_getElem h)
        rw [List.getD_eq_getElem?_getD, List.getElem?_map, List.getElem?_map, List.getElem?_eq_getElem h, e]
        exact ⟨v, rfl, q⟩
      · rw [if_neg h, if_neg h, getD_rep]; trivial
  · cases i with
    | succ i => rw [noOwn] at h; cases h
    | zero =>
      cases j with
      | succ j => rw [noOwn] at h'; cases h'
      | zero => rfl
  · cases i with
    | succ i => rw [noOwn] at h; cases h
    | zero =>
      have e' : some (some (V.ref a)) = some (some (V.ref b)) := e
      cases e'
      exact .inr (by simp)
  · have e : (i, b) = (0, a) := by simpa using h
    cases e
    exact ⟨rfl, hio⟩
variable {P : Program} {w : World} {mg : Str → Option Value} {base : Heap}
/-- THE RULE for a def of values -/
theorem fn_val {x qual : Str} {params : Arguments} {body : List Stmt} {scope : Scope} {dvs : List V} {kws : List (Str × V)} {f : Addr} {fd : FuncData} {N ps : List Str} {k n : Nat} {g : M Fl} (Fn : FunD K x qual params body scope dvs kws f fd) (S : FnScope N ps scope) (hn : n = ps.length)
    (hb : ∀ (cdv : Value) (_ : codV K f = cdv) (A : Around) (outer : List Env) (s : Shared) (H : Hp) (E : XK), RoomG k (A.deeper (envOfC qual scope s.heap.objs.size f cdv)) →
      AB (cxOf (L2.CX P w) P w K mg base N qual scope f cdv A outer s H E) (fun c d _ H => E c d H) body g) :
    FnG P w K mg base (k + 1) f fd ps (PSp K n (runF N.length g)) := by
  refine fng_of Fn S (fun vs H Q E h => h.1.trans hn) fun cdv hcd A outer s H vs Q E hr h => ?_
  obtain ⟨hl, F, ds, sF, r, hg⟩ := h
  obtain ⟨t, ht, q⟩ := hb cdv hcd A outer s H E hr
  refine ⟨t, ht, q ⟨H, F, [], []⟩ _ H F _ _ (stt_start sF r) ?_⟩
  unfold runF at hg
  have aft : ∀ {σ' : St} {H' F' : Hp} {ρ : Ro}, Stt K ⟨H, F, [], []⟩ σ' H' F' ρ → Aft K H F H' F' := fun S => ⟨⟨fun a o e n => S.same a o e (fun i z => by simp at z) n, fun _ => S.tb⟩, S.sub, S.ext, S.new, fun _ => S.ft⟩
  cases e : g (ds.map SV.val ++ List.replicate (N.length - ds.length) SV.un) with
  | ok a ρ =>
    rw [e] at hg
    cases a with
    | nx => exact fun σ' H' F' S q => hg .non H' F' (aft S) .non
    | rt d => exact fun v σ' H' F' S q rv => hg v H' F' (aft S) rv
    | rn ds => exact hg.elim
    | bk => exact hg.elim
    | ct => exact hg.elim
  | exc x ρ =>
    rw [e] at hg
    exact fun d σ' H' F' S q rv => hg d H' F' (aft S) rv
  | stuck => rw [e] at hg; exact hg
/-- THE RULE for a def that gives a new list -/
theorem fn_new {x qual : Str} {params : Arguments} {body : List Stmt} {scope : Scope} {dvs : List V} {kws : List (Str × V)} {f : Addr} {fd : FuncData} {N ps : List Str} {k n : Nat} {g : M Fl} (Fn : FunD K x qual params body scope dvs kws f fd) (S : FnScope N ps scope) (hn : n = ps.length)
    (hb : ∀ (cdv : Value) (_ : codV K f = cdv) (A : Around) (outer : List Env) (s : Shared) (H : Hp) (E : XK), RoomG k (A.deeper (envOfC qual scope s.heap.objs.size f cdv)) →
      AB (cxOf (L2.CX P w) P w K mg base N qual scope f cdv A outer s H E) (fun c d _ H => E c d H) body g) :
    FnG P w K mg base (k + 1) f fd ps (NSp K n (runN N.length g)) := by
  refine fng_of Fn S (fun vs H Q E h => h.1.trans hn) fun cdv hcd A outer s H vs Q E hr h => ?_
  obtain ⟨hl, F, ds, sF, r, hg⟩ := h
  obtain ⟨t, ht, q⟩ := hb cdv hcd A outer s H E hr
  refine ⟨t, ht, q ⟨H, F, [], []⟩ _ H F _ _ (stt_start sF r) ?_⟩
  unfold runN at hg
  have aft : ∀ {σ' : St} {H' F' : Hp} {ρ : Ro} {xt : List (Addr × HO)}, Stt K ⟨H, F, [], xt⟩ σ' H' F' ρ → Aft K H F H' F' := fun S => ⟨⟨fun a o e n => S.same a o e (fun i z => by simp at z) n, fun _ => S.tb⟩, S.sub, S.ext, S.new, fun _ => S.ft⟩
  cases e : g (ds.map SV.val ++ List.replicate (N.length - ds.length) SV.un) with
  | ok a ρ =>
    rw [e] at hg
    cases a with
    | nx => exact hg.elim
    | rt d => exact hg.elim
    | rn xs =>
      refine fun a vs σ' H' F' S q rv => hg a vs H' F' (aft S) ?_ rv
      obtain ⟨h1, h2, h3, _⟩ := S.xt (a, .lst vs) (List.mem_cons_self ..)
      exact ⟨h1, h2, h3⟩
    | bk => exact hg.elim
    | ct => exact hg.elim
  | exc x ρ =>
    rw [e] at hg
    exact fun d σ' H' F' S q rv => hg d H' F' (aft S) rv
  | stuck => rw [e] at hg; exact hg
/-- THE RULE for a def that may change its first parameter -/
theorem fn_io {x qual : Str} {params : Arguments} {body : List Stmt} {scope : Scope} {dvs : List V} {kws : List (Str × V)} {f : Addr} {fd : FuncData} {N ps : List Str} {k n : Nat} {g : M Fl} (Fn : FunD K x qual params body scope dvs kws f fd) (S : FnScope N ps scope) (hn : n + 1 = ps.length)
    (hb : ∀ (cdv : Value) (_ : codV K f = cdv) (A : Around) (outer : List Env) (s : Shared) (H : Hp) (E : XK), RoomG k (A.deeper (envOfC qual scope s.heap.objs.size f cdv)) →
      AB (cxOf (L2.CX P w) P w K mg base N qual scope f cdv A outer s H E) (fun c d _ H => E c d H) body g) :
    FnG P w K mg base (k + 1) f fd ps (ISp K n (runI N.length g)) := by
  refine fng_of Fn S (fun vs H Q E h => h.1.trans hn) fun cdv hcd A outer s H vs Q E hr h => ?_
  obtain ⟨hl, F, a, ws, sv, ds, rfl, sF, qs, hio, r, hg⟩ := h
  obtain ⟨t, ht, q⟩ := hb cdv hcd A outer s H E hr
  refine ⟨t, ht, q ⟨H, F, [(0, a)], []⟩ _ H F _ _ (stt_startI sF qs hio r) ?_⟩
  unfold runI at hg
  have aft : ∀ {σ' : St} {H' F' : Hp} {ρ : Ro}, Stt K ⟨H, F, [(0, a)], []⟩ σ' H' F' ρ → AftIo K a (ρ.getD 0 .un) H F H' F' := fun {σ' H' F' ρ} S => by
    obtain ⟨e1, e2⟩ := S.io 0 a (by simp)
    refine ⟨⟨fun b o ne e n => S.same b o e (fun i z => ne ?_) n, fun _ => S.tb⟩, S.sub, S.ext, S.new, fun _ => S.ft, ?_, e2⟩
    · have : (i, b) = (0, a) := by simpa using z
      cases this; rfl
    · have q := S.at_ 0
      rw [e1] at q; exact q
  cases e : g (sv :: ds.map SV.val ++ List.replicate (N.length - (ds.length + 1)) SV.un) with
  | ok a ρ =>
    rw [e] at hg
    cases a with
    | nx => exact fun σ' H' F' S q => hg .non H' F' (aft S) .non
    | rt d => exact fun v σ' H' F' S q rv => hg v H' F' (aft S) rv
    | rn ds => exact hg.elim
    | bk => exact hg.elim
    | ct => exact hg.elim
  | exc x ρ =>
    rw [e] at hg
    exact fun d σ' H' F' S q rv => hg d H' F' (aft S) rv
  | stuck => rw [e] at hg; exact hg
end
end Mr
namespace Mr
open PySem PySem.Spec PyProof.Rows L2
variable [Lam] [Pins]

/-! ### expressions: what they are worth -/
def mVar (i : Nat) : M D := fun ρ => match ρ.getD i .un with
  | .val d => .ok d ρ
  | .own false xs => .ok (.lst xs) (ρ.set i (.val (.lst xs)))
  | .dic false ks xs => .ok (.dct ks xs) (ρ.set i (.val (.dct ks xs)))
  | _ => .stuck
def mC (d : D) : M D := fun ρ => .ok d ρ
def m2 (g : D → D → FR D) (a b : M D) : M D := fun ρ => (a ρ).bind fun x ρ => (b ρ).bind fun y ρ => (g x y).lift ρ
def m1 (g : D → FR D) (a : M D) : M D := fun ρ => (a ρ).bind fun x ρ => (g x).lift ρ
def mL (g : List D → FR D) (a : M (List D)) : M D := fun ρ => (a ρ).bind fun xs ρ => (g xs).lift ρ
def mNil : M (List D) := fun ρ => .ok [] ρ
def mCons (a : M D) (r : M (List D)) : M (List D) := fun ρ => (a ρ).bind fun x ρ => (r ρ).bind fun xs ρ => .ok (x :: xs) ρ
def mIf (t : M Bool) (a b : M D) : M D := fun ρ => (t ρ).bind fun c ρ => if c = true then a ρ else b ρ
def mAnd (a b : M D) : M D := fun ρ => (a ρ).bind fun x ρ => match x with
  | .bl true => b ρ
  | .bl false => .ok (.bl false) ρ
  | _ => .stuck
def mOr (a b : M D) : M D := fun ρ => (a ρ).bind fun x ρ => match x with
  | .bl true => .ok (.bl true) ρ
  | .bl false => b ρ
  | _ => .stuck
def notD : D → FR D
  | .bl b => .ok (.bl (!b))
  | _ => .stuck
/-- a < b < c -/
def mChain (g h : D → D → FR D) (a b c : M D) : M D := fun ρ => (a ρ).bind fun x ρ => (b ρ).bind fun y ρ => ((g x y).lift ρ).bind fun z ρ => match z with
  | .bl true => (c ρ).bind fun w ρ => (h y w).lift ρ
  | .bl false => .ok (.bl false) ρ
  | _ => .stuck
/-! tests -/
def tOf (a : M D) : M Bool := fun ρ => (a ρ).bind fun x ρ => match x with
  | .bl b => .ok b ρ
  | _ => .stuck
def tNot (a : M Bool) : M Bool := fun ρ => (a ρ).bind fun b ρ => .ok (!b) ρ
def tAnd (a b : M Bool) : M Bool := fun ρ => (a ρ).bind fun c ρ => if c = true then b ρ else .ok false ρ
def tOr (a b : M Bool) : M Bool := fun ρ => (a ρ).bind fun c ρ => if c = true then .ok true ρ else b ρ

section
variable {X : Cx} {W : WX}
theorem AE.var {i : Nat} {x : Str} {pos : Pos} (h : PE X (.Name x pos) (tVar i)) : AE X W (.Name x pos) (mVar i) := by
  refine ⟨_, h, fun G σ H F ρ Q S hg => ?_⟩
  unfold mVar at hg
  have q := S.at_ i
  cases e : ρ.getD i .un with
  | un => rw [e] at hg; exact hg.elim
  | val d =>
    rw [e] at hg q
    obtain ⟨v, e1, r⟩ := q
    exact ⟨v, e1, hg H F S Sm.refl v r⟩
  | own p xs =>
    cases p with
    | true => rw [e] at hg; exact hg.elim
    | false =>
      obtain ⟨a, F', e1, S', sF, r⟩ := S.freeze e
      rw [e] at hg
      exact ⟨_, e1, hg H F' S' sF _ r⟩
  | ins p C ns ds => rw [e] at hg; exact hg.elim
  | dic p ks ds =>
    cases p with
    | true => rw [e] at hg; exact hg.elim
    | false =>
      obtain ⟨a, F', e1, S', sF, r⟩ := S.freezeD e
      rw [e] at hg
      exact ⟨_, e1, hg H F' S' sF _ r⟩
  | pin => rw [e] at hg; exact hg.elim
theorem AE.cst {e : Expr} {v : V} {d : D} (h : PE X e (tC v)) (r : ∀ K H, Rep K H v d) : AE X W e (mC d) :=
  ⟨_, h, fun G σ H F ρ Q S hg => hg H F S Sm.refl v (r _ _)⟩
theorem AE.cstK {e : Expr} {v : V} {d : D} (h : PE X e (tC v)) (r : ∀ H, Rep X.K H v d) : AE X W e (mC d) :=
  ⟨_, h, fun G σ H F ρ Q S hg => hg H F S Sm.refl v (r _)⟩
theorem AE.int {i : Int} {j : Nat} {pos : Pos} : AE X W (.Constant (.int i) j pos) (mC (.int i)) := .cst pe_int fun _ _ => .int i
theorem AE.str {x : Str} {j : Nat} {pos : Pos} : AE X W (.Constant (.str x) j pos) (mC (.str x)) := .cst pe_str fun _ _ => .str x
theorem AE.bl {b : Bool} {j : Nat} {pos : Pos} : AE X W (.Constant (.bool b) j pos) (mC (.bl b)) := .cst pe_bl fun _ _ => .bl b
theorem AE.non {j : Nat} {pos : Pos} : AE X W (.Constant .none j pos) (mC .non) := .cst pe_non fun _ _ => .non
theorem AE.gint {x : Str} {i : Int} {t : Tok} {pos : Pos} (hg : Gl X x) (hm : X.mg x = some (.int i t)) (hd : (x == ("__debug__" : Str)) = false := by decide) : AE X W (.Name x pos) (mC (.int i)) := .cst (v := .int i) (pe_glob hg hm ⟨t, rfl⟩ hd) fun _ _ => .int i
theorem AE.gstr {x : Str} {i : Str} {t : Tok} {pos : Pos} (hg : Gl X x) (hm : X.mg x = some (.str i t)) (hd : (x == ("__debug__" : Str)) = false := by decide) : AE X W (.Name x pos) (mC (.str i)) := .cst (v := .str i) (pe_glob hg hm ⟨t, rfl⟩ hd) fun _ _ => .str i

/-- a two-place operation does g -/
def OA (X : Cx) (W : WX) (f : Value → Value → Sem Value) (g : D → D → FR D) : Prop :=
  ∃ r : R2, OpR X f r ∧ ∀ G σ H F ρ x y dx dy Q, Stt X.K G σ H F ρ → Rep X.K F x dx → Rep X.K F y dy → Good X.K G W σ F ((g dx dy).lift ρ) (PD X.K Q) → r x y H Q
def UA (X : Cx) (W : WX) (f : Value → Sem Value) (g : D → FR D) : Prop :=
  ∃ r : V → Hp → VK → Prop, UnR X f r ∧ ∀ G σ H F ρ x dx Q, Stt X.K G σ H F ρ → Rep X.K F x dx → Good X.K G W σ F ((g dx).lift ρ) (PD X.K Q) → r x H Q
/-- a call of a built-in value does g -/
def CA (X : Cx) (W : WX) (f : Value) (g : List D → FR D) : Prop :=
  ∃ r : List V → Hp → VK → Prop, CallR X f r ∧ ∀ G σ H F ρ vs ds Q, Stt X.K G σ H F ρ → Reps X.K F vs ds → Good X.K G W σ F ((g ds).lift ρ) (PD X.K Q) → r vs H Q
variable {a b c : Expr} {fa fb fc : M D} {pos : Pos}
theorem AE.bin {op : Operator} {g : D → D → FR D} (ho : OA X W (binaryOp op) g) (ha : AE X W a fa) (hb : AE X W b fb) : AE X W (.BinOp a op b pos) (m2 g fa fb) := by
  obtain ⟨r, h1, h2⟩ := ho
  obtain ⟨ta, pa, qa⟩ := ha
  obtain ⟨tb, pb, qb⟩ := hb
  refine ⟨_, pe_op h1 pa pb, fun G σ H F ρ Q S hg => qa G σ H F ρ _ S (hg.bind fun dx ρ1 H1 F1 S1 s1 g1 v r1 => qb G σ H1 F1 ρ1 _ S1 (g1.bind fun dy ρ2 H2 F2 S2 s2 g2 u r2 => ?_))⟩
  exact h2 G σ H2 F2 ρ2 v u dx dy Q S2 (r1.mono s2) r2 g2
theorem AE.cmp {op : CmpOp} {g : D → D → FR D} (ho : OA X W (compareOp op) g) (ha : AE X W a fa) (hb : AE X W b fb) (hm : behindInMarks op b = false) : AE X W (.Compare a [op] [b] pos) (m2 g fa fb) := by
  obtain ⟨r, h1, h2⟩ := ho
  obtain ⟨ta, pa, qa⟩ := ha
  obtain ⟨tb, pb, qb⟩ := hb
  refine ⟨_, pe_cmpR h1 pa pb hm, fun G σ H F ρ Q S hg => qa G σ H F ρ _ S (hg.bind fun dx ρ1 H1 F1 S1 s1 g1 v r1 => qb G σ H1 F1 ρ1 _ S1 (g1.bind fun dy ρ2 H2 F2 S2 s2 g2 u r2 => ?_))⟩
  exact h2 G σ H2 F2 ρ2 v u dx dy Q S2 (r1.mono s2) r2 g2
theorem tOf_bool {Q : Bool → Hp → Prop} {K : PySem.W.Frag} {G : Ent} {σ : St} {F : Hp} {r : R D} (h : Good K G W σ F (r.bind fun x ρ => match x with | .bl b => .ok b ρ | _ => .stuck) (PB Q)) : Good K G W σ F r (PD K fun v H => ∃ k, v = .bl k ∧ Q k H) :=
  h.bind fun d ρ1 H1 F1 S1 s1 g1 v r1 => by
    cases d with
    | bl b => cases r1; exact ⟨b, rfl, g1 H1 F1 S1 Sm.refl⟩
    | _ => exact g1.elim
theorem AT.cmp {op : CmpOp} {g : D → D → FR D} (ho : OA X W (compareOp op) g) (ha : AE X W a fa) (hb : AE X W b fb) (hm : behindInMarks op b = false) : AT X W (.Compare a [op] [b] pos) (tOf (m2 g fa fb)) := by
  obtain ⟨r, h1, h2⟩ := ho
  obtain ⟨ta, pa, qa⟩ := ha
  obtain ⟨tb, pb, qb⟩ := hb
  refine ⟨_, pt_cmpR h1 pa pb hm, fun G σ H F ρ Q S hg => qa G σ H F ρ _ S ((tOf_bool hg).bind fun dx ρ1 H1 F1 S1 s1 g1 v r1 => qb G σ H1 F1 ρ1 _ S1 (g1.bind fun dy ρ2 H2 F2 S2 s2 g2 u r2 => ?_))⟩
  exact h2 G σ H2 F2 ρ2 v u dx dy _ S2 (r1.mono s2) r2 g2
theorem AE.chain {op op' : CmpOp} {g h : D → D → FR D} (ho : OA X W (compareOp op) g) (ho' : OA X W (compareOp op') h) (ha : AE X W a fa) (hb : AE X W b fb) (hc : AE X W c fc) (hm : lastMarks [op, op'] [b, c] = false := by with_unfolding_all rfl) :
    AE X W (.Compare a [op, op'] [b, c] pos) (mChain g h fa fb fc) := by
  obtain ⟨r, h1, h2⟩ := ho
  obtain ⟨r', h3, h4⟩ := ho'
  obtain ⟨ta, pa, qa⟩ := ha
  obtain ⟨tb, pb, qb⟩ := hb
  obtain ⟨tc, pc, qc⟩ := hc
  refine ⟨_, pe_chain h1 h3 pa pb pc hm, fun G σ H F ρ Q S hg => qa G σ H F ρ _ S (hg.bind fun dx ρ1 H1 F1 S1 s1 g1 v r1 => qb G σ H1 F1 ρ1 _ S1 (g1.bind fun dy ρ2 H2 F2 S2 s2 g2 u r2 => ?_))⟩
  refine h2 G σ H2 F2 ρ2 v u dx dy _ S2 (r1.mono s2) r2 (g2.bind fun dz ρ3 H3 F3 S3 s3 g3 z r3 => ?_)
  cases dz with
  | bl k =>
    cases r3
    refine ⟨k, rfl, ?_⟩
    cases k with
    | true =>
      rw [if_pos rfl]
      exact qc G σ H3 F3 ρ3 _ S3 (g3.bind fun dw ρ4 H4 F4 S4 s4 g4 w r4 => h4 G σ H4 F4 ρ4 u w dy dw Q S4 (r2.mono (s3.tr s4)) r4 g4)
    | false =>
      rw [if_neg Bool.false_ne_true]
      exact g3 H3 F3 S3 Sm.refl _ (.bl false)
  | _ => exact g3.elim
theorem AT.chain {op op' : CmpOp} {g h : D → D → FR D} (ho : OA X W (compareOp op) g) (ho' : OA X W (compareOp op') h) (ha : AE X W a fa) (hb : AE X W b fb) (hc : AE X W c fc) (hm : lastMarks [op, op'] [b, c] = false := by with_unfolding_all rfl) :
    AT X W (.Compare a [op, op'] [b, c] pos) (tOf (mChain g h fa fb fc)) := by
  obtain ⟨r, h1, h2⟩ := ho
  obtain ⟨r', h3, h4⟩ := ho'
  obtain ⟨ta, pa, qa⟩ := ha
  obtain ⟨tb, pb, qb⟩ := hb
  obtain ⟨tc, pc, qc⟩ := hc
  refine ⟨_, pt_chain h1 h3 pa pb pc hm, fun G σ H F ρ Q S hg => qa G σ H F ρ _ S ((tOf_bool hg).bind fun dx ρ1 H1 F1 S1 s1 g1 v r1 => qb G σ H1 F1 ρ1 _ S1 (g1.bind fun dy ρ2 H2 F2 S2 s2 g2 u r2 => ?_))⟩
  refine h2 G σ H2 F2 ρ2 v u dx dy _ S2 (r1.mono s2) r2 (g2.bind fun dz ρ3 H3 F3 S3 s3 g3 z r3 => ?_)
  cases dz with
  | bl k =>
    cases r3
    refine ⟨k, rfl, ?_⟩
    cases k with
    | true =>
      rw [if_pos rfl]
      exact qc G σ H3 F3 ρ3 _ S3 (g3.bind fun dw ρ4 H4 F4 S4 s4 g4 w r4 => h4 G σ H4 F4 ρ4 u w dy dw _ S4 (r2.mono (s3.tr s4)) r4 g4)
    | false =>
      rw [if_neg Bool.false_ne_true]
      exact g3 H3 F3 S3 Sm.refl _ (.bl false)
  | _ => exact g3.elim
theorem AE.un {op : UnaryOp} {g : D → FR D} (ho : UA X W (unaryOp op) g) (ha : AE X W a fa) : AE X W (.UnaryOp op a pos) (m1 g fa) := by
  obtain ⟨r, h1, h2⟩ := ho
  obtain ⟨ta, pa, qa⟩ := ha
  exact ⟨_, pe_un h1 pa, fun G σ H F ρ Q S hg => qa G σ H F ρ _ S (hg.bind fun dx ρ1 H1 F1 S1 s1 g1 v r1 => h2 G σ H1 F1 ρ1 v dx Q S1 r1 g1)⟩
theorem AE.not (ha : AE X W a fa) : AE X W (.UnaryOp .Not a pos) (m1 notD fa) := by
  obtain ⟨ta, pa, qa⟩ := ha
  refine ⟨_, pe_not pa, fun G σ H F ρ Q S hg => qa G σ H F ρ _ S (hg.bind fun dx ρ1 H1 F1 S1 s1 g1 v r1 => ?_)⟩
  cases dx with
  | bl k => cases r1; exact ⟨k, rfl, g1 H1 F1 S1 Sm.refl _ (.bl _)⟩
  | _ => exact g1.elim
theorem AE.one {op : BoolOp} (ha : AE X W a fa) : AE X W (.BoolOp op [a] pos) fa := by
  obtain ⟨ta, pa, qa⟩ := ha
  exact ⟨_, pe_one pa, qa⟩
theorem AE.and {rest : List Expr} (ha : AE X W a fa) (hb : AE X W (.BoolOp .And (b :: rest) pos) fb) : AE X W (.BoolOp .And (a :: b :: rest) pos) (mAnd fa fb) := by
  obtain ⟨ta, pa, qa⟩ := ha
  obtain ⟨tb, pb, qb⟩ := hb
  refine ⟨_, pe_and pa pb, fun G σ H F ρ Q S hg => qa G σ H F ρ _ S (hg.bind fun dx ρ1 H1 F1 S1 s1 g1 v r1 => ?_)⟩
  cases dx with
  | bl k =>
    cases r1
    refine ⟨k, rfl, ?_⟩
    cases k with
    | true => rw [if_pos rfl]; exact qb G σ H1 F1 ρ1 Q S1 g1
    | false => rw [if_neg Bool.false_ne_true]; exact g1 H1 F1 S1 Sm.refl _ (.bl false)
  | _ => exact g1.elim
theorem AE.or {rest : List Expr} (ha : AE X W a fa) (hb : AE X W (.BoolOp .Or (b :: rest) pos) fb) : AE X W (.BoolOp .Or (a :: b :: rest) pos) (mOr fa fb) := by
  obtain ⟨ta, pa, qa⟩ := ha
  obtain ⟨tb, pb, qb⟩ := hb
  refine ⟨_, pe_or pa pb, fun G σ H F ρ Q S hg => qa G σ H F ρ _ S (hg.bind fun dx ρ1 H1 F1 S1 s1 g1 v r1 => ?_)⟩
  cases dx with
  | bl k =>
    cases r1
    refine ⟨k, rfl, ?_⟩
    cases k with
    | true => rw [if_pos rfl]; exact g1 H1 F1 S1 Sm.refl _ (.bl true)
    | false => rw [if_neg Bool.false_ne_true]; exact qb G σ H1 F1 ρ1 Q S1 g1
  | _ => exact g1.elim
/-! tests -/
variable {ta tb : M Bool}
theorem AT.val (ha : AE X W a fa) (he : ∀ whole, isTrue a X.env whole = (do let v ← whole; standAt a.pos; holding [v] (truthy v)) := by intro _; rfl) : AT X W a (tOf fa) := by
  obtain ⟨t, pa, qa⟩ := ha
  exact ⟨_, pt_val pa he, fun G σ H F ρ Q S hg => qa G σ H F ρ _ S (tOf_bool hg)⟩
theorem AW.pt (h : AW X W a ta) : AT X W a ta := by
  obtain ⟨t, pa, qa⟩ := h
  exact ⟨_, pa.pt, qa⟩
theorem AT.not (ha : AT X W a ta) : AT X W (.UnaryOp .Not a pos) (tNot ta) := by
  obtain ⟨t, pa, qa⟩ := ha
  exact ⟨_, pt_not pa, fun G σ H F ρ Q S hg => qa G σ H F ρ _ S (hg.bind fun k ρ1 H1 F1 S1 s1 g1 => g1 H1 F1 S1 Sm.refl)⟩
theorem AW.and1 (ha : AT X W a ta) : AW X W (.BoolOp .And [a] pos) ta := by
  obtain ⟨t, pa, qa⟩ := ha
  exact ⟨_, pw_and1 pa, qa⟩
theorem AW.or1 (ha : AT X W a ta) : AW X W (.BoolOp .Or [a] pos) ta := by
  obtain ⟨t, pa, qa⟩ := ha
  exact ⟨_, pw_or1 pa, qa⟩
theorem AW.and {rest : List Expr} (ha : AT X W a ta) (hb : AW X W (.BoolOp .And (b :: rest) pos) tb) : AW X W (.BoolOp .And (a :: b :: rest) pos) (tAnd ta tb) := by
  obtain ⟨t, pa, qa⟩ := ha
  obtain ⟨u, pb, qb⟩ := hb
  refine ⟨_, pw_and pa pb, fun G σ H F ρ Q S hg => qa G σ H F ρ _ S (hg.bind fun k ρ1 H1 F1 S1 s1 g1 => ?_)⟩
  show if k = true then u σ H1 Q else Q false H1
  cases k with
  | true => rw [if_pos rfl]; exact qb G σ H1 F1 ρ1 Q S1 g1
  | false => rw [if_neg Bool.false_ne_true]; exact g1 H1 F1 S1 Sm.refl
theorem AW.or {rest : List Expr} (ha : AT X W a ta) (hb : AW X W (.BoolOp .Or (b :: rest) pos) tb) : AW X W (.BoolOp .Or (a :: b :: rest) pos) (tOr ta tb) := by
  obtain ⟨t, pa, qa⟩ := ha
  obtain ⟨u, pb, qb⟩ := hb
  refine ⟨_, pw_or pa pb, fun G σ H F ρ Q S hg => qa G σ H F ρ _ S (hg.bind fun k ρ1 H1 F1 S1 s1 g1 => ?_)⟩
  show if k = true then Q true H1 else u σ H1 Q
  cases k with
  | true => rw [if_pos rfl]; exact g1 H1 F1 S1 Sm.refl
  | false => rw [if_neg Bool.false_ne_true]; exact qb G σ H1 F1 ρ1 Q S1 g1
theorem AE.ifx (hc : AT X W c ta) (ha : AE X W a fa) (hb : AE X W b fb) : AE X W (.IfExp c a b pos) (mIf ta fa fb) := by
  obtain ⟨t, pc, qc⟩ := hc
  obtain ⟨ua, pa, qa⟩ := ha
  obtain ⟨ub, pb, qb⟩ := hb
  refine ⟨_, pe_ifExp pc pa pb, fun G σ H F ρ Q S hg => qc G σ H F ρ _ S (hg.bind fun k ρ1 H1 F1 S1 s1 g1 => ?_)⟩
  show if k = true then ua σ H1 Q else ub σ H1 Q
  cases k with
  | true => rw [if_pos rfl]; exact qa G σ H1 F1 ρ1 Q S1 g1
  | false => rw [if_neg Bool.false_ne_true]; exact qb G σ H1 F1 ρ1 Q S1 g1
/-! arguments, displays, calls -/
variable {es : List Expr} {fs : M (List D)}
theorem AA.nil : AA X W [] mNil := ⟨_, pa_nil, fun G σ H F ρ Q S hg => hg H F S Sm.refl [] .nil⟩
theorem AA.cons (ha : AE X W a fa) (hr : AA X W es fs) (hs : starEach (a :: es) X.env = (false, eval a X.env) :: starEach es X.env := by rfl) : AA X W (a :: es) (mCons fa fs) := by
  obtain ⟨ta, pa, qa⟩ := ha
  obtain ⟨tr, pr, qr⟩ := hr
  refine ⟨_, pa_cons pa pr hs, fun G σ H F ρ Q S hg => qa G σ H F ρ _ S (hg.bind fun d ρ1 H1 F1 S1 s1 g1 v r1 => qr G σ H1 F1 ρ1 _ S1 (g1.bind fun ds ρ2 H2 F2 S2 s2 g2 vs r2 => ?_))⟩
  exact g2 H2 F2 S2 Sm.refl _ (.cons (r1.mono s2) r2)
def tupD (ds : List D) : FR D := if ds.length ≤ sizeLine then .ok (.tup ds) else .stuck
def lstD (ds : List D) : FR D := if ds.length ≤ sizeLine then .ok (.lst ds) else .stuck
theorem newTup {G : Ent} {σ : St} {H F : Hp} {ρ : Ro} {vs : List V} {ds : List D} {Q : VK} {p : Addr} (S : Stt X.K G σ H F ρ) (r : Reps X.K F vs ds) (g : Good X.K G W σ F (.ok (.tup ds) ρ) (PD X.K Q)) (hp : H p = none) : Q (.ref p) (upd H p (.tup vs)) :=
  g _ _ (S.alloc hp) (S.allocF hp) _ (.tup (.of upd_same) (r.mono (S.allocF hp)))
theorem newLst {G : Ent} {σ : St} {H F : Hp} {ρ : Ro} {vs : List V} {ds : List D} {Q : VK} {p : Addr} (S : Stt X.K G σ H F ρ) (r : Reps X.K F vs ds) (g : Good X.K G W σ F (.ok (.lst ds) ρ) (PD X.K Q)) (hp : H p = none) : Q (.ref p) (upd H p (.lst vs)) :=
  g _ _ (S.alloc hp) (S.allocF hp) _ (.lst upd_same (r.mono (S.allocF hp)))
theorem AE.tup {k : Nat} (h : AA X W es fs) : AE X W (.Tuple es k pos) (mL tupD fs) := by
  obtain ⟨t, p, q⟩ := h
  refine ⟨_, pe_tup p, fun G σ H F ρ Q S hg => q G σ H F ρ _ S (hg.bind fun ds ρ1 H1 F1 S1 s1 g1 vs r1 => ?_)⟩
  unfold tupD at g1
  by_cases hz : ds.length ≤ sizeLine
  · rw [if_pos hz] at g1
    exact ⟨by rw [r1.length]; exact hz, fun p hp => newTup S1 r1 g1 hp⟩
  · rw [if_neg hz] at g1; exact g1.elim
theorem AE.lst (h : AA X W es fs) : AE X W (.List es pos) (mL lstD fs) := by
  obtain ⟨t, p, q⟩ := h
  refine ⟨_, pe_lst p, fun G σ H F ρ Q S hg => q G σ H F ρ _ S (hg.bind fun ds ρ1 H1 F1 S1 s1 g1 vs r1 => ?_)⟩
  unfold lstD at g1
  by_cases hz : ds.length ≤ sizeLine
  · rw [if_pos hz] at g1
    exact ⟨by rw [r1.length]; exact hz, fun p hp => newLst S1 r1 g1 hp⟩
  · rw [if_neg hz] at g1; exact g1.elim
theorem AE.blt {x : Str} {p : Pos} {id : String} {g : List D → FR D} (hc : CA X W (.builtin id) g) (hg : Gl X x) (hm : X.mg x = none) (hv : bootBuiltins x = some (.builtin id)) (ha : AA X W (a :: es) fs) (hn : x ≠ "__name__" := by decide) (hdb : (x == ("__debug__" : Str)) = false := by decide)
    (he : starEach (a :: es) X.env = (false, eval a X.env) :: starEach es X.env := by rfl) (hpl : (backTo pos (starEach es X.env)).any (·.1) = false := by rfl) : AE X W (.Call (.Name x p) (a :: es) [] pos) (mL g fs) := by
  obtain ⟨r, h1, h2⟩ := hc
  obtain ⟨t, pa, qa⟩ := ha
  exact ⟨_, pe_callB h1 hg hm hv pa hn hdb he hpl, fun G σ H F ρ Q S hgd => qa G σ H F ρ _ S (hgd.bind fun ds ρ1 H1 F1 S1 s1 g1 vs r1 => h2 G σ H1 F1 ρ1 vs ds Q S1 r1 g1)⟩
theorem AE.bty {x : Str} {p : Pos} {T : String} {g : List D → FR D} (hc : CA X W (.type T) g) (hg : Gl X x) (hm : X.mg x = none) (hv : bootBuiltins x = some (.type T)) (ha : AA X W (a :: es) fs) (hn : x ≠ "__name__" := by decide) (hdb : (x == ("__debug__" : Str)) = false := by decide)
    (he : starEach (a :: es) X.env = (false, eval a X.env) :: starEach es X.env := by rfl) (hpl : (backTo pos (starEach es X.env)).any (·.1) = false := by rfl) : AE X W (.Call (.Name x p) (a :: es) [] pos) (mL g fs) := by
  obtain ⟨r, h1, h2⟩ := hc
  obtain ⟨t, pa, qa⟩ := ha
  exact ⟨_, pe_callTy h1 hg hm hv pa hn hdb he hpl, fun G σ H F ρ Q S hgd => qa G σ H F ρ _ S (hgd.bind fun ds ρ1 H1 F1 S1 s1 g1 vs r1 => h2 G σ H1 F1 ρ1 vs ds Q S1 r1 g1)⟩
end
end Mr
namespace Mr
open PySem PySem.Spec PyProof.Rows L2
variable [Lam] [Pins]

/-! ### data as the library's data -/
mutual
def py : D → PyData
  | .non => .none
  | .bl b => .bool b
  | .int i => .int i
  | .str x => .str x
  | .tup xs => .tuple (pys xs)
  | .lst xs => .list (pys xs)
  | .frz xs => .list (pys xs)
  | .obj _ _ _ => .none
  | .dct _ _ => .none
  | .opq _ => .none
  | .any => .none
def pys : List D → List PyData
  | [] => []
  | x :: xs => py x :: pys xs
end
mutual
/-- plain data, at most so deep -/
def okD : Nat → D → Bool
  | _, .non => true
  | _, .bl _ => true
  | _, .int _ => true
  | _, .str _ => true
  | n, .tup xs => match n with | 0 => false | n + 1 => okDs n xs
  | n, .lst xs => match n with | 0 => false | n + 1 => okDs n xs
  | n, .frz xs => match n with | 0 => false | n + 1 => okDs n xs
  | _, .obj _ _ _ => false
  | _, .dct _ _ => false
  | _, .opq _ => false
  | _, .any => false
def okDs : Nat → List D → Bool
  | _, [] => true
  | n, x :: xs => okD n x && okDs n xs
end
mutual
theorem okD_py : ∀ (n : Nat) (d : D), okD n d = true → (py d).plain = true ∧ (py d).depth ≤ n
  | _, .non, _ => ⟨rfl, Nat.zero_le _⟩
  | _, .bl _, _ => ⟨rfl, Nat.zero_le _⟩
  | _, .int _, _ => ⟨rfl, Nat.zero_le _⟩
  | _, .str _, _ => ⟨rfl, Nat.zero_le _⟩
  | 0, .tup xs, h => by simp [okD] at h
  | n + 1, .tup xs, h => by
    have := okDs_py n xs (by simpa [okD] using h)
    exact ⟨by simpa [py, PyData.plain] using this.1, by simp only [py, PyData.depth]; omega⟩
  | 0, .lst xs, h => by simp [okD] at h
  | n + 1, .lst xs, h => by
    have := okDs_py n xs (by simpa [okD] using h)
    exact ⟨by simpa [py, PyData.plain] using this.1, by simp only [py, PyData.depth]; omega⟩
  | 0, .frz xs, h => by simp [okD] at h
  | n + 1, .frz xs, h => by
    have := okDs_py n xs (by simpa [okD] using h)
    exact ⟨by simpa [py, PyData.plain] using this.1, by simp only [py, PyData.depth]; omega⟩
  | _, .obj _ _ _, h => by simp [okD] at h
  | _, .dct _ _, h => by simp [okD] at h
  | _, .opq _, h => by simp [okD] at h
  | _, .any, h => by simp [okD] at h
theorem okDs_py : ∀ (n : Nat) (ds : List D), okDs n ds = true → PyData.plainAll (pys ds) = true ∧ PyData.depthAll (pys ds) ≤ n
  | _, [], _ => ⟨rfl, Nat.zero_le _⟩
  | n, x :: xs, h => by
    have h' : okD n x = true ∧ okDs n xs = true := by simpa [okDs] using h
    have a := okD_py n x h'.1
    have b := okDs_py n xs h'.2
    exact ⟨by simp [pys, PyData.plainAll, a.1, b.1], by simp only [pys, PyData.depthAll]; omega⟩
end
mutual
theorem rep_dp {K : PySem.W.Frag} {H : Hp} : ∀ {v : V} {d : D} (n : Nat), Rep K H v d → okD n d = true → Dp K H v (py d)
  | _, _, _, .non, _ => .non
  | _, _, _, .bl b, _ => .bl b
  | _, _, _, .int i, _ => .int i
  | _, _, _, .str x, _ => .str x
  | _, _, 0, .tup s r, h => by simp [okD] at h
  | _, _, n + 1, .tup s r, h => .tup s (reps_dp n r (by simpa [okD] using h))
  | _, _, 0, .lst s r, h => by simp [okD] at h
  | _, _, n + 1, .lst s r, h => .lst (.of s) (reps_dp n r (by simpa [okD] using h))
  | _, _, 0, .frz s r, h => by simp [okD] at h
  | _, _, n + 1, .frz s r, h => .lst s (reps_dp n r (by simpa [okD] using h))
  | _, _, _, .obj _ _ _ _, h => by simp [okD] at h
  | _, _, _, .dct _ _ _, h => by simp [okD] at h
  | _, _, _, .opq _, h => by simp [okD] at h
  | _, _, _, .any _ _, h => by simp [okD] at h
theorem reps_dp {K : PySem.W.Frag} {H : Hp} : ∀ {vs : List V} {ds : List D} (n : Nat), Reps K H vs ds → okDs n ds = true → DpAll K H vs (pys ds)
  | _, _, _, .nil, _ => .nil
  | _, _, n, .cons a r, h => by
    rw [okDs, Bool.and_eq_true] at h
    exact .cons (rep_dp n a h.1) (reps_dp n r h.2)
end
theorem Sm.dp_aux {K : PySem.W.Frag} {F H : Hp} (s : Sm F H) {v : V} {d : D} (r : Rep K F v d) : Rep K H v d := r.mono s
/-- == of data -/
def eqv (a b : D) : Bool := PyData.eqv (py a) (py b)

/-! ### operations on data -/
def addD : D → D → FR D
  | .int i, .int j => .ok (.int (i + j))
  | .str a, .str b => if a.length + b.length ≤ sizeLine then .ok (.str (a ++ b)) else .stuck
  | .tup xs, .tup ys => if xs.length + ys.length ≤ sizeLine then .ok (.tup (xs ++ ys)) else .stuck
  | .lst xs, .lst ys => if xs.length + ys.length ≤ sizeLine then .ok (.lst (xs ++ ys)) else .stuck
  | _, _ => .stuck
def subD : D → D → FR D
  | .int i, .int j => .ok (.int (i - j))
  | _, _ => .stuck
def mulOk (i j : Int) : Prop := (Builtin.Int.intBits i : Int) + (Builtin.Int.intBits j : Int) ≤ 134217728
/-- the checks by Nat, so that no literal is ever peeled -/
def mulB (i j : Int) : Bool := Nat.ble (Builtin.Int.intBits i + Builtin.Int.intBits j) 134217728
omit [Lam] [Pins] in
theorem mulB_iff (i j : Int) : mulB i j = true ↔ mulOk i j := by
  unfold mulB mulOk
  rw [Nat.ble_eq]
  omega
instance (i j : Int) : Decidable (mulOk i j) := decidable_of_iff _ (mulB_iff i j)
def fitB (m : Nat) : Int → Bool
  | .ofNat n => Nat.blt n m
  | .negSucc n => Nat.blt n m
omit [Lam] [Pins] in
theorem fitB_iff {m : Nat} {i : Int} : fitB m i = true ↔ -(m : Int) ≤ i ∧ i < m := by
  cases i with
  | ofNat n =>
    show Nat.blt n m = true ↔ _
    rw [Nat.blt_eq]
    show n < m ↔ -(m : Int) ≤ (n : Int) ∧ (n : Int) < m
    omega
  | negSucc n =>
    show Nat.blt n m = true ↔ _
    rw [Nat.blt_eq]
    omega
def I62 (i : Int) : Prop := -(2 ^ 62) ≤ i ∧ i < 2 ^ 62
def I63 (i : Int) : Prop := -(2 ^ 63) ≤ i ∧ i < 2 ^ 63
omit [Lam] [Pins] in
theorem fit62 (i : Int) : fitB 4611686018427387904 i = true ↔ I62 i := fitB_iff
omit [Lam] [Pins] in
theorem fit63 (i : Int) : fitB 9223372036854775808 i = true ↔ I63 i := fitB_iff
instance (i : Int) : Decidable (I62 i) := decidable_of_iff _ (fit62 i)
instance (i : Int) : Decidable (I63 i) := decidable_of_iff _ (fit63 i)
/-- a list (a tuple of at least one, twice or more often) times an int -/
def mulD : D → D → FR D
  | .int i, .int j => if mulOk i j then .ok (.int (i * j)) else .stuck
  | .lst xs, .int k => if I63 k ∧ xs.length * k.toNat ≤ sizeLine then .ok (.lst (List.replicate k.toNat xs).flatten) else .stuck
  | .tup xs, .int k => if k = 1 then .ok (.tup xs) else if xs ≠ [] ∧ -1000 ≤ k ∧ k ≤ 0 then .ok (.tup []) else if xs ≠ [] ∧ 2 ≤ k ∧ k ≤ 1000 ∧ xs.length ≤ 1000 then .ok (.tup (List.replicate k.toNat xs).flatten) else .stuck
  | _, _ => .stuck
def divOk (i j : Int) : Prop := j ≠ 0 ∧ Builtin.divisionGoesByPylong i j = false
instance (i j : Int) : Decidable (divOk i j) := inferInstanceAs (Decidable (_ ∧ _))
def divD : D → D → FR D
  | .int i, .int j => if divOk i j then .ok (.int (i.fdiv j)) else .stuck
  | _, _ => .stuck
def modD : D → D → FR D
  | .int i, .int j => if j ≠ 0 then .ok (.int (i.fmod j)) else .stuck
  | _, _ => .stuck
def powD : D → D → FR D
  | .int i, .int j => if 0 ≤ j ∧ (Builtin.Int.intBits i : Int) * j ≤ 2 ^ 27 then .ok (.int (i ^ j.toNat)) else .stuck
  | _, _ => .stuck
def negD : D → FR D
  | .int i => .ok (.int (-i))
  | _ => .stuck
def ltD : D → D → FR D
  | .int i, .int j => .ok (.bl (decide (i < j)))
  | .str a, .str b => .ok (.bl (decide (a.cps.toList < b.cps.toList)))
  | _, _ => .stuck
def leD : D → D → FR D
  | .int i, .int j => .ok (.bl (decide (i ≤ j)))
  | .str a, .str b => .ok (.bl (!decide (b.cps.toList < a.cps.toList)))
  | _, _ => .stuck
def gtD : D → D → FR D
  | .int i, .int j => .ok (.bl (decide (j < i)))
  | _, _ => .stuck
def geD : D → D → FR D
  | .int i, .int j => .ok (.bl (decide (j ≤ i)))
  | _, _ => .stuck
def eqD (a b : D) : FR D := if okD 12 a = true ∧ okD 12 b = true then .ok (.bl (eqv a b)) else .stuck
def neD (a b : D) : FR D := if okD 12 a = true ∧ okD 12 b = true then .ok (.bl (!eqv a b)) else .stuck
def isNon : D → Bool
  | .non => true
  | .opq v => decide (v = .non)
  | _ => false
def isD (a b : D) : FR D := match b with
  | .non => .ok (.bl (isNon a))
  | _ => .stuck
def isntD (a b : D) : FR D := match b with
  | .non => .ok (.bl (!isNon a))
  | _ => .stuck
/-- a text within a text -/
def subStr (a b : Str) : Bool := !(Builtin.Str.occurrences b a 0 b.length 1).isEmpty
def inD : D → D → FR D
  | .str a, .str b => .ok (.bl (subStr a b))
  | a, .tup xs => if okD 12 a = true ∧ okDs 12 xs = true then .ok (.bl (xs.any fun y => eqv y a)) else .stuck
  | a, .lst xs => if okD 12 a = true ∧ okDs 12 xs = true then .ok (.bl (xs.any fun y => eqv y a)) else .stuck
  | _, _ => .stuck
def ninD : D → D → FR D
  | .str a, .str b => .ok (.bl (!subStr a b))
  | a, .tup xs => if okD 12 a = true ∧ okDs 12 xs = true then .ok (.bl (!xs.any fun y => eqv y a)) else .stuck
  | a, .lst xs => if okD 12 a = true ∧ okDs 12 xs = true then .ok (.bl (!xs.any fun y => eqv y a)) else .stuck
  | _, _ => .stuck
/-- what has places -/
def seqD : D → Option (List D)
  | .tup xs => some xs
  | .lst xs => some xs
  | .frz xs => some xs
  | _ => none
def lenD : List D → FR D
  | [.str x] => if x.length ≤ sizeLine then .ok (.int x.length) else .stuck
  | [.tup xs] => .ok (.int xs.length)
  | [.lst xs] => .ok (.int xs.length)
  | [.frz xs] => .ok (.int xs.length)
  | _ => .stuck
/-- the ints of data -/
def intsD : List D → Option (List Int)
  | [] => some []
  | .int i :: r => (intsD r).map (i :: ·)
  | _ => none
def blsD : List D → Option (List Bool)
  | [] => some []
  | .bl i :: r => (blsD r).map (i :: ·)
  | _ => none
def sumD : List D → FR D
  | [.lst xs] => match intsD xs with
    | some ns => .ok (.int ns.sum)
    | none => .stuck
  | _ => .stuck
def allD : List D → FR D
  | [.lst xs] => match blsD xs with
    | some bs => .ok (.bl (bs.all id))
    | none => .stuck
  | _ => .stuck
def anyD : List D → FR D
  | [.lst xs] => match blsD xs with
    | some bs => .ok (.bl (bs.any id))
    | none => .stuck
  | _ => .stuck
def tupleD : List D → FR D
  | [.lst xs] => .ok (.tup xs)
  | [.tup xs] => .ok (.tup xs)
  | _ => .stuck
def listD : List D → FR D
  | [.lst xs] => .ok (.lst xs)
  | [.tup xs] => .ok (.lst xs)
  | [.frz xs] => .ok (.lst xs)
  | _ => .stuck
def intD : List D → FR D
  | [.int i] => .ok (.int i)
  | [.bl b] => .ok (.int (if b then 1 else 0))
  | _ => .stuck
def absD : List D → FR D
  | [.int i] => .ok (.int (if i < 0 then -i else i))
  | _ => .stuck
def max2D : List D → FR D
  | [.int i, .int j] => .ok (.int (if j > i then j else i))
  | _ => .stuck
def min2D : List D → FR D
  | [.int i, .int j] => .ok (.int (if j < i then j else i))
  | _ => .stuck
/-- isinstance of a built-in class: the class's number is 0 int, 1 bool, 2 str, 3 tuple, 4 list, 5 dict -/
def isKind (T : String) : D → Option Bool
  | .non => if T = "int" ∨ T = "bool" ∨ T = "str" ∨ T = "tuple" ∨ T = "list" ∨ T = "dict" then some false else none
  | .bl _ => if T = "int" ∨ T = "bool" then some true else if T = "str" ∨ T = "tuple" ∨ T = "list" ∨ T = "dict" then some false else none
  | .int _ => if T = "int" then some true else if T = "bool" ∨ T = "str" ∨ T = "tuple" ∨ T = "list" ∨ T = "dict" then some false else none
  | .str _ => if T = "str" then some true else if T = "int" ∨ T = "bool" ∨ T = "tuple" ∨ T = "list" ∨ T = "dict" then some false else none
  | .tup _ => if T = "tuple" then some true else if T = "int" ∨ T = "bool" ∨ T = "str" ∨ T = "list" ∨ T = "dict" then some false else none
  | .lst _ => if T = "list" then some true else if T = "int" ∨ T = "bool" ∨ T = "str" ∨ T = "tuple" ∨ T = "dict" then some false else none
  | .dct _ _ => if T = "dict" then some true else if T = "int" ∨ T = "bool" ∨ T = "str" ∨ T = "tuple" ∨ T = "list" then some false else none
  | _ => none
def isiD : List D → FR D
  | [d, .opq (.ty T)] => match isKind T d with
    | some b => .ok (.bl b)
    | none => .stuck
  | _ => .stuck
def ixD : D → D → FR D
  | .str x, .int i => if x.length ≤ sizeLine then match atI x.cps.toList i with
    | some c => .ok (.str ⟨#[c]⟩)
    | none => .stuck
    else .stuck
  | .tup xs, .int i => match atI xs i with
    | some d => .ok d
    | none => .stuck
  | .lst xs, .int i => match atI xs i with
    | some d => .ok d
    | none => .stuck
  | .frz xs, .int i => match atI xs i with
    | some d => .ok d
    | none => .stuck
  | _, _ => .stuck
def cutD (xs : List D) (lo hi : Option Int) : List D := (xs.drop (HT.sIx xs.length 0 lo)).take (HT.sIx xs.length xs.length hi - HT.sIx xs.length 0 lo)
def optI : D → Option (Option Int)
  | .int i => some (some i)
  | _ => none
def sliceD (x : D) (lo hi : Option Int) : FR D := match x with
  | .tup xs => .ok (.tup (cutD xs lo hi))
  | .lst xs => .ok (.lst (cutD xs lo hi))
  | .frz xs => .ok (.lst (cutD xs lo hi))
  | .str z => if z.length ≤ sizeLine then .ok (.str (cutS z lo hi)) else .stuck
  | _ => .stuck

theorem intsD_map : ∀ ns : List Int, intsD (ns.map D.int) = some ns
  | [] => rfl
  | n :: r => by simp [intsD, intsD_map r]
theorem blsD_map : ∀ ns : List Bool, blsD (ns.map D.bl) = some ns
  | [] => rfl
  | n :: r => by simp [blsD, blsD_map r]
theorem reps_ints {K : PySem.W.Frag} {H : Hp} : ∀ {vs : List V} {ds : List D} {ns : List Int}, Reps K H vs ds → intsD ds = some ns → vs = ns.map V.int
  | _, _, _, .nil, e => by simp [intsD] at e; subst e; rfl
  | _, _, _, .cons h r, e => by
    cases h with
    | int i =>
      simp only [intsD, Option.map_eq_some_iff] at e
      obtain ⟨ns, e1, rfl⟩ := e
      rw [reps_ints r e1]; rfl
    | _ => simp [intsD] at e
theorem reps_bls {K : PySem.W.Frag} {H : Hp} : ∀ {vs : List V} {ds : List D} {ns : List Bool}, Reps K H vs ds → blsD ds = some ns → vs = ns.map V.bl
  | _, _, _, .nil, e => by simp [blsD] at e; subst e; rfl
  | _, _, _, .cons h r, e => by
    cases h with
    | bl i =>
      simp only [blsD, Option.map_eq_some_iff] at e
      obtain ⟨ns, e1, rfl⟩ := e
      rw [reps_bls r e1]; rfl
    | _ => simp [blsD] at e
theorem reps_at {K : PySem.W.Frag} {H : Hp} {vs : List V} {ds : List D} {i : Int} {d : D} (r : Reps K H vs ds) (h : atI ds i = some d) : ∃ v, atI vs i = some v ∧ Rep K H v d := by
  unfold atI at h ⊢
  rw [r.length]
  cases e : ixN ds.length i with
  | none => rw [e] at h; simp at h
  | some j =>
    rw [e] at h
    exact r.get j h

section
variable {X : Cx} {W : WX}
theorem OA.add : OA X W (binaryOp .Add) addD := by
  refine ⟨_, op_add.or (op_add_str.or (op_catA.or op_cat)), fun G σ H F ρ x y dx dy Q S rx ry hg => ?_⟩
  cases rx with
  | int i =>
    cases ry with
    | int j => exact .inl ⟨i, j, rfl, rfl, hg H F S Sm.refl _ (.int _)⟩
    | _ => exact hg.elim
  | str a =>
    cases ry with
    | str b =>
      simp only [addD] at hg
      by_cases hz : a.length + b.length ≤ sizeLine
      · rw [if_pos hz] at hg; exact .inr (.inl ⟨a, b, rfl, rfl, hz, hg H F S Sm.refl _ (.str _)⟩)
      · rw [if_neg hz] at hg; exact hg.elim
    | _ => exact hg.elim
  | tup hx rx =>
    cases ry with
    | tup hy ry =>
      simp only [addD] at hg
      split at hg
      · rename_i hz
        refine .inr (.inr (.inl ⟨_, _, _, _, rfl, rfl, SqTm S.sub hx, SqTm S.sub hy, ?_, fun e => ?_, fun _ e => ?_, fun _ e p hp => ?_⟩))
        · rw [rx.length, ry.length]; exact hz
        · subst e
          cases rx
          rw [List.nil_append] at hg
          exact hg H F S Sm.refl _ (.tup hy ry)
        · subst e
          cases ry
          rw [List.append_nil] at hg
          exact hg H F S Sm.refl _ (.tup hx rx)
        · exact newTup S (rx.append ry) hg hp
      · exact hg.elim
    | _ => exact hg.elim
  | lst hx rx =>
    cases ry with
    | lst hy ry =>
      simp only [addD] at hg
      split at hg
      · rename_i hz
        refine .inr (.inr (.inr ⟨_, _, _, _, rfl, rfl, S.sub _ _ hx, S.sub _ _ hy, ?_, fun p hp => ?_⟩))
        · rw [rx.length, ry.length]; exact hz
        · exact newLst S (rx.append ry) hg hp
      · exact hg.elim
    | _ => exact hg.elim
  | _ => exact hg.elim
theorem OA.ofI {f : Value → Value → Sem Value} {r : R2} (h : OpR X f r) {g : D → D → FR D} (hr : ∀ G σ H F ρ i j Q, Stt X.K G σ H F ρ → Good X.K G W σ F ((g (.int i) (.int j)).lift ρ) (PD X.K Q) → r (.int i) (.int j) H Q)
    (hs : ∀ dx dy, g dx dy = .stuck ∨ ∃ i j, dx = .int i ∧ dy = .int j) : OA X W f g := by
  refine ⟨r, h, fun G σ H F ρ x y dx dy Q S rx ry hg => ?_⟩
  rcases hs dx dy with e | ⟨i, j, rfl, rfl⟩
  · rw [e] at hg; exact hg.elim
  · cases rx; cases ry
    exact hr G σ H F ρ i j Q S hg
theorem OA.sub : OA X W (binaryOp .Sub) subD := .ofI op_sub (fun G σ H F ρ i j Q S hg => ⟨i, j, rfl, rfl, hg H F S Sm.refl _ (.int _)⟩) fun dx dy => by
  cases dx <;> cases dy <;> first | exact .inl rfl | exact .inr ⟨_, _, rfl, rfl⟩
theorem OA.mod : OA X W (binaryOp .Mod) modD := .ofI op_modN (fun G σ H F ρ i j Q S hg => by
    simp only [modD] at hg
    split at hg
    · rename_i hz; exact ⟨i, j, rfl, rfl, hz, hg H F S Sm.refl _ (.int _)⟩
    · exact hg.elim) fun dx dy => by
  cases dx <;> cases dy <;> first | exact .inl rfl | exact .inr ⟨_, _, rfl, rfl⟩
theorem op_fdivP : OpR X (binaryOp .FloorDiv) (rI divOk fun i j => .int (i.fdiv j)) := opI fun _ _ _ _ _ _ _ hc q => floordiv_int hc.1 q (.inl hc.2)
theorem OA.div : OA X W (binaryOp .FloorDiv) divD := .ofI op_fdivP (fun G σ H F ρ i j Q S hg => by
    simp only [divD] at hg
    split at hg
    · rename_i hz; exact ⟨i, j, rfl, rfl, hz, hg H F S Sm.refl _ (.int _)⟩
    · exact hg.elim) fun dx dy => by
  cases dx <;> cases dy <;> first | exact .inl rfl | exact .inr ⟨_, _, rfl, rfl⟩
theorem op_powP : OpR X (binaryOp .Pow) (rI (fun i j => 0 ≤ j ∧ (Builtin.Int.intBits i : Int) * j ≤ 2 ^ 27) fun i j => .int (i ^ j.toNat)) := opI fun _ _ _ _ _ _ _ hc q => pow_int hc.1 hc.2 q
theorem OA.pow : OA X W (binaryOp .Pow) powD := .ofI op_powP (fun G σ H F ρ i j Q S hg => by
    simp only [powD] at hg
    split at hg
    · rename_i hz; exact ⟨i, j, rfl, rfl, hz, hg H F S Sm.refl _ (.int _)⟩
    · exact hg.elim) fun dx dy => by
  cases dx <;> cases dy <;> first | exact .inl rfl | exact .inr ⟨_, _, rfl, rfl⟩
theorem reps_rep {K : PySem.W.Frag} {H : Hp} {vs : List V} {ds : List D} (r : Reps K H vs ds) : ∀ n : Nat, Reps K H (List.replicate n vs).flatten (List.replicate n ds).flatten
  | 0 => .nil
  | n + 1 => by
    rw [List.replicate_succ, List.replicate_succ, List.flatten_cons, List.flatten_cons]
    exact r.append (reps_rep r n)
end
theorem tuple_mulW1 (l : Addr) (items : Array Value) (n : Nat) (sl : Array (Option Value)) (dd : Option Addr) (u : Tok) :
    Meets (Builtin.«tuple.__mul__» ⟨[.ref l, .int 1 u], []⟩) (fun _ R s => s.heap.get? l = some { cls := .type "tuple", dict := dd, data := .seq items n, slots := sl } ∧
      R (.ok (.ret (Value.ref l))) s) :=
  .of_wp fun prog w A R s h => by
    obtain ⟨hp, g, d, tk, os⟩ := s
    obtain ⟨hl, h⟩ := h
    have f1 := AutoSeq1.idx_int
    wp_walk using wpAny_loadPart' hl
    exact ⟨_, rfl, h⟩
/-- a tuple times nothing -/
theorem tuple_mulW0 (l : Addr) (its : Array Value) (n : Nat) (sl : Array (Option Value)) (dd : Option Addr) (x : Int) (u : Tok) (lo : (decide (x < -(2 ^ 63)) || decide (x ≥ 2 ^ 63)) = false) (some_ : (its.isEmpty || x == 1) = false) (no : (decide (x ≤ 0) || its.isEmpty) = true) :
    Meets (Builtin.«tuple.__mul__» ⟨[.ref l, .int x u], []⟩) (fun _ R s => s.heap.get? l = some { cls := .type "tuple", dict := dd, data := .seq its n, slots := sl } ∧
      R (.ok (.ret (Value.ref s.heap.objs.size))) { s with heap := s.heap.push { cls := Value.type "tuple", data := Data.seq #[] }, toks := s.toks }) :=
  .of_wp fun prog w A R s h => by
    obtain ⟨hp, g, d, tk, os⟩ := s
    obtain ⟨at_l, h⟩ := h
    have ix := AutoSeq1.idx_int
    wp_walk using wpAny_loadPart' at_l
    repeat (first
      | (refine wpAny_ite_false (decide_eq_false (by rw [lo]; exact Bool.false_ne_true)) ?_; wp_walk using wpAny_loadPart' at_l)
      | (refine wpAny_ite_false (decide_eq_false (by rw [some_]; exact Bool.false_ne_true)) ?_; wp_walk using wpAny_loadPart' at_l)
      | (rw [if_pos no]; wp_walk using wpAny_loadPart' at_l)
      | (rw [if_pos (decide_eq_true no)]; wp_walk using wpAny_loadPart' at_l))
    exact ⟨_, rfl, h⟩
def rRepT0 (K : PySem.W.Frag) : R2 := fun x y H Q => ∃ l k xs, x = .ref l ∧ y = .int k ∧ SqT K H l xs ∧ xs ≠ [] ∧ -1000 ≤ k ∧ k ≤ 0 ∧ ∀ p, H p = none → Q (.ref p) (upd H p (.tup []))
theorem op_repT0 {X : Cx} : OpR X (binaryOp .Mult) (rRepT0 X.K) := by
  intro pins s σ H x y v u Q I rx ry h
  obtain ⟨l, k, xs, rfl, rfl, hT, hne, k1, k2, q⟩ := h
  cases rx
  obtain ⟨t, rfl⟩ := ry
  obtain ⟨its, r, ⟨⟨cls, dd, data, sl⟩, ho, hc, n, hd⟩, hs⟩ := I.tuple hT
  simp only at hc hd
  subst hc hd
  have ne : its.toArray.isEmpty = false := by
    cases its with
    | nil => exact absurd (List.eq_nil_of_length_eq_zero (by rw [r.length]; rfl)) hne
    | cons a b => rfl
  have c0 : (decide (k < -(2 ^ 63)) || decide (k ≥ 2 ^ 63)) = false := by
    simp only [Bool.or_eq_false_iff, decide_eq_false_iff_not]; omega
  have c1 : (its.toArray.isEmpty || k == 1) = false := by
    rw [ne]
    have : k ≠ 1 := by omega
    simp [this]
  have c2 : (decide (k ≤ 0) || its.toArray.isEmpty) = true := by simp [k2]
  refine wpAny_binaryOp_repeat_ref (T := "tuple") (U := "int") (by decide) ⟨_, ho, rfl⟩ (fun s' => typeIs_int s' k t) noFill_tuple_mul F.fills_int_mul F.slot_int_rmul repeat_tuple F.slot_int_index.lookup
    (call_meets F.slot_int_rmul (typeIs_int s k t) F.entry_int_rmul (F.args_int_rmul_2 _ _) (int_rmul_tuple k t l its.toArray n dd sl)
      ⟨ho, rfl, ⟨_, ho, rfl⟩, call_meets F.slot_tuple_mul ⟨_, ho, rfl⟩ F.entry_tuple_mul (F.args_tuple_mul_2 _ _) (tuple_mulW0 l its.toArray n sl dd k t c0 c1 c2) ⟨ho, ?_⟩⟩)
  have hf := I.hok.fresh (Nat.le_refl s.heap.objs.size)
  exact ⟨.ref s.heap.objs.size, upd H s.heap.objs.size (.tup []), I.laid (t' := s.toks) (fun b w e => Heap.get?_push_of_some _ e) (Nat.le_refl _) ⟨by show 0 ≤ sizeLine; decide, [], .nil, ⟨_, Heap.get?_push_size _ rfl, rfl, _, rfl⟩⟩, rfl, q _ hf⟩
/-- a tuple times 1 is the tuple -/
def rRepT1 (K : PySem.W.Frag) : R2 := fun x y H Q => ∃ l xs, x = .ref l ∧ y = .int 1 ∧ SqT K H l xs ∧ Q (.ref l) H
theorem op_repT1 {X : Cx} : OpR X (binaryOp .Mult) (rRepT1 X.K) := by
  intro pins s σ H x y v u Q I rx ry h
  obtain ⟨l, xs, rfl, rfl, hT, q⟩ := h
  cases rx
  obtain ⟨t, rfl⟩ := ry
  obtain ⟨its, r, ⟨⟨cls, dd, data, sl⟩, ho, hc, n, hd⟩, hs⟩ := I.tuple hT
  simp only at hc hd
  subst hc hd
  refine wpAny_binaryOp_repeat_ref (T := "tuple") (U := "int") (by decide) ⟨_, ho, rfl⟩ (fun s' => typeIs_int s' 1 t) noFill_tuple_mul F.fills_int_mul F.slot_int_rmul repeat_tuple F.slot_int_index.lookup
    (call_meets F.slot_int_rmul (typeIs_int s 1 t) F.entry_int_rmul (F.args_int_rmul_2 _ _) (int_rmul_tuple 1 t l its.toArray n dd sl)
      ⟨ho, rfl, ⟨_, ho, rfl⟩, call_meets F.slot_tuple_mul ⟨_, ho, rfl⟩ F.entry_tuple_mul (F.args_tuple_mul_2 _ _) (tuple_mulW1 l its.toArray n sl dd t) ⟨ho, ?_⟩⟩)
  exact ⟨.ref l, H, I, rfl, q⟩
section
variable {X : Cx} {W : WX}
theorem OA.mul : OA X W (binaryOp .Mult) mulD := by
  refine ⟨_, op_mulX.or (op_rep.or (op_repT.or (op_repT1.or op_repT0))), fun G σ H F ρ x y dx dy Q S rx ry hg => ?_⟩
  cases rx with
  | int i =>
    cases ry with
    | int j =>
      simp only [mulD] at hg
      split at hg
      · rename_i hz; exact .inl ⟨i, j, rfl, rfl, hz, hg H F S Sm.refl _ (.int _)⟩
      · exact hg.elim
    | _ => exact hg.elim
  | lst hx rx =>
    cases ry with
    | int k =>
      simp only [mulD] at hg
      split at hg
      · rename_i hz
        exact .inr (.inl ⟨_, k, _, rfl, rfl, S.sub _ _ hx, hz.1.1, hz.1.2, by rw [rx.length]; exact hz.2, fun p hp => newLst S (reps_rep rx _) hg hp⟩)
      · exact hg.elim
    | _ => exact hg.elim
  | tup hx rx =>
    cases ry with
    | int k =>
      simp only [mulD] at hg
      split at hg
      · rename_i hz
        subst hz
        exact .inr (.inr (.inr (.inl ⟨_, _, rfl, rfl, SqTm S.sub hx, hg H F S Sm.refl _ (.tup hx rx)⟩)))
      split at hg
      · rename_i hz
        refine .inr (.inr (.inr (.inr ⟨_, k, _, rfl, rfl, SqTm S.sub hx, ?_, hz.2.1, hz.2.2, fun p hp => newTup S .nil hg hp⟩)))
        intro e
        have := rx.length
        rw [e] at this
        exact hz.1 (List.eq_nil_of_length_eq_zero this.symm)
      split at hg
      · rename_i hz
        refine .inr (.inr (.inl ⟨_, k, _, rfl, rfl, SqTm S.sub hx, ?_, hz.2.1, hz.2.2.1, by rw [rx.length]; exact hz.2.2.2, fun p hp => newTup S (reps_rep rx _) hg hp⟩))
        intro e
        have := rx.length
        rw [e] at this
        exact hz.1 (List.eq_nil_of_length_eq_zero this.symm)
      · exact hg.elim
    | _ => exact hg.elim
  | _ => exact hg.elim
theorem UA.neg : UA X W (unaryOp .USub) negD := by
  refine ⟨_, un_neg, fun G σ H F ρ x dx Q S rx hg => ?_⟩
  cases rx with
  | int i => exact ⟨i, rfl, hg H F S Sm.refl _ (.int _)⟩
  | _ => exact hg.elim
theorem op_le_str : OpR X (compareOp .LtE) (fun x y H Q => ∃ i j, x = .str i ∧ y = .str j ∧ Q (.bl (!decide (j.cps.toList < i.cps.toList))) H) := by
  intro pins s σ H x y v u Q I rx ry h
  obtain ⟨i, j, rfl, rfl, q⟩ := h
  obtain ⟨t, rfl⟩ := rx
  obtain ⟨t', rfl⟩ := ry
  exact PySem.P.le_str (fin_bl I q (by simp))
theorem OA.lt : OA X W (compareOp .Lt) ltD := by
  refine ⟨_, op_lt.or op_lt_str, fun G σ H F ρ x y dx dy Q S rx ry hg => ?_⟩
  cases rx with
  | int i =>
    cases ry with
    | int j => exact .inl ⟨i, j, rfl, rfl, hg H F S Sm.refl _ (.bl _)⟩
    | _ => exact hg.elim
  | str i =>
    cases ry with
    | str j => exact .inr ⟨i, j, rfl, rfl, hg H F S Sm.refl _ (.bl _)⟩
    | _ => exact hg.elim
  | _ => exact hg.elim
theorem OA.le : OA X W (compareOp .LtE) leD := by
  refine ⟨_, op_le.or op_le_str, fun G σ H F ρ x y dx dy Q S rx ry hg => ?_⟩
  cases rx with
  | int i =>
    cases ry with
    | int j => exact .inl ⟨i, j, rfl, rfl, hg H F S Sm.refl _ (.bl _)⟩
    | _ => exact hg.elim
  | str i =>
    cases ry with
    | str j => exact .inr ⟨i, j, rfl, rfl, hg H F S Sm.refl _ (.bl _)⟩
    | _ => exact hg.elim
  | _ => exact hg.elim
theorem OA.gt : OA X W (compareOp .Gt) gtD := .ofI op_gt (fun G σ H F ρ i j Q S hg => ⟨i, j, rfl, rfl, hg H F S Sm.refl _ (.bl _)⟩) fun dx dy => by
  cases dx <;> cases dy <;> first | exact .inl rfl | exact .inr ⟨_, _, rfl, rfl⟩
theorem OA.ge : OA X W (compareOp .GtE) geD := .ofI op_ge (fun G σ H F ρ i j Q S hg => ⟨i, j, rfl, rfl, hg H F S Sm.refl _ (.bl _)⟩) fun dx dy => by
  cases dx <;> cases dy <;> first | exact .inl rfl | exact .inr ⟨_, _, rfl, rfl⟩
def rEqP (K : PySem.W.Frag) : R2 := fun x y H Q => ∃ d e, Dp K H x d ∧ Dp K H y e ∧ d.plain = true ∧ e.plain = true ∧ d.depth ≤ 12 ∧ Q (.bl (PyData.eqv d e)) H
def rNeP (K : PySem.W.Frag) : R2 := fun x y H Q => ∃ d e, Dp K H x d ∧ Dp K H y e ∧ d.plain = true ∧ e.plain = true ∧ d.depth ≤ 12 ∧ Q (.bl (!PyData.eqv d e)) H
theorem op_eqP (hu : X.A.units + 64 < cLine) : OpR X (compareOp .Eq) (rEqP X.K) := by
  intro pins s σ H x y v u Q I rx ry h
  obtain ⟨d, e, hd, he, sd, se, hz, q⟩ := h
  obtain ⟨as, r1⟩ := Dp.reads I d x v hd rx
  obtain ⟨bs, r2⟩ := Dp.reads I e y u he ry
  exact SeqAt.eq_plain r1 r2 sd se (by omega) ⟨.bl _, H, I, rfl, q⟩
theorem op_neP (hu : X.A.units + 64 < cLine) : OpR X (compareOp .NotEq) (rNeP X.K) := by
  intro pins s σ H x y v u Q I rx ry h
  obtain ⟨d, e, hd, he, sd, se, hz, q⟩ := h
  obtain ⟨as, r1⟩ := Dp.reads I d x v hd rx
  obtain ⟨bs, r2⟩ := Dp.reads I e y u he ry
  exact SeqAt.ne_plain r1 r2 sd se (by omega) ⟨.bl _, H, I, rfl, q⟩
theorem OA.eq (hu : X.A.units + 64 < cLine) : OA X W (compareOp .Eq) eqD := by
  refine ⟨_, op_eqP hu, fun G σ H F ρ x y dx dy Q S rx ry hg => ?_⟩
  unfold eqD at hg
  split at hg
  · rename_i hz
    have p1 := okD_py 12 dx hz.1
    have p2 := okD_py 12 dy hz.2
    exact ⟨py dx, py dy, rep_dp 12 (rx.mono S.sub) hz.1, rep_dp 12 (ry.mono S.sub) hz.2, p1.1, p2.1, p1.2, hg H F S Sm.refl _ (.bl _)⟩
  · exact hg.elim
theorem OA.ne (hu : X.A.units + 64 < cLine) : OA X W (compareOp .NotEq) neD := by
  refine ⟨_, op_neP hu, fun G σ H F ρ x y dx dy Q S rx ry hg => ?_⟩
  unfold neD at hg
  split at hg
  · rename_i hz
    have p1 := okD_py 12 dx hz.1
    have p2 := okD_py 12 dy hz.2
    exact ⟨py dx, py dy, rep_dp 12 (rx.mono S.sub) hz.1, rep_dp 12 (ry.mono S.sub) hz.2, p1.1, p2.1, p1.2, hg H F S Sm.refl _ (.bl _)⟩
  · exact hg.elim
theorem rep_non {K : PySem.W.Frag} {H : Hp} {v : V} {d : D} (r : Rep K H v d) : decide (v = .non) = isNon d := by
  cases r <;> simp_all [isNon]
theorem OA.isN : OA X W (compareOp .Is) isD := by
  refine ⟨_, op_isN, fun G σ H F ρ x y dx dy Q S rx ry hg => ?_⟩
  cases ry with
  | non => exact ⟨rfl, by rw [rep_non rx]; exact hg H F S Sm.refl _ (.bl _)⟩
  | _ => exact hg.elim
theorem OA.notN : OA X W (compareOp .IsNot) isntD := by
  refine ⟨_, op_notN, fun G σ H F ρ x y dx dy Q S rx ry hg => ?_⟩
  cases ry with
  | non => exact ⟨rfl, by rw [rep_non rx]; exact hg H F S Sm.refl _ (.bl _)⟩
  | _ => exact hg.elim
def rInP (K : PySem.W.Frag) : R2 := fun x y H Q => ∃ d xs, Dp K H x d ∧ (Dp K H y (.tuple xs) ∨ Dp K H y (.list xs)) ∧ d.plain = true ∧ PyData.plainAll xs = true ∧ d.depth ≤ 12 ∧ Q (.bl (xs.any fun z => PyData.eqv z d)) H
def rNinP (K : PySem.W.Frag) : R2 := fun x y H Q => ∃ d xs, Dp K H x d ∧ (Dp K H y (.tuple xs) ∨ Dp K H y (.list xs)) ∧ d.plain = true ∧ PyData.plainAll xs = true ∧ d.depth ≤ 12 ∧ Q (.bl (!xs.any fun z => PyData.eqv z d)) H
theorem op_inP (hu : X.A.units + 64 < cLine) : OpR X (compareOp .In) (rInP X.K) := by
  intro pins s σ H x y v u Q I rx ry h
  obtain ⟨d, xs, hd, he, sd, se, hz, q⟩ := h
  obtain ⟨as, r1⟩ := Dp.reads I d x v hd rx
  rcases he with he | he
  · obtain ⟨bs, r2⟩ := Dp.reads I _ y u he ry
    exact SeqAt.in_tuple_data r2 r1 se sd (by omega) ⟨.bl _, H, I, rfl, q⟩
  · obtain ⟨bs, r2⟩ := Dp.reads I _ y u he ry
    exact SeqAt.in_list_data r2 r1 se sd (by omega) ⟨.bl _, H, I, rfl, q⟩
theorem op_ninP (hu : X.A.units + 64 < cLine) : OpR X (compareOp .NotIn) (rNinP X.K) := by
  intro pins s σ H x y v u Q I rx ry h
  obtain ⟨d, xs, hd, he, sd, se, hz, q⟩ := h
  obtain ⟨as, r1⟩ := Dp.reads I d x v hd rx
  rcases he with he | he
  · obtain ⟨bs, r2⟩ := Dp.reads I _ y u he ry
    exact SeqAt.notIn_tuple_data r2 r1 se sd (by omega) ⟨.bl _, H, I, rfl, q⟩
  · obtain ⟨bs, r2⟩ := Dp.reads I _ y u he ry
    exact SeqAt.notIn_list_data r2 r1 se sd (by omega) ⟨.bl _, H, I, rfl, q⟩
theorem any_py (a : D) : ∀ xs : List D, (pys xs).any (fun z => PyData.eqv z (py a)) = xs.any fun y => eqv y a
  | [] => rfl
  | x :: xs => by simp only [pys, List.any_cons, any_py a xs, eqv]
theorem OA.in_ (hu : X.A.units + 64 < cLine) : OA X W (compareOp .In) inD := by
  refine ⟨_, op_in_str.or (op_inP hu), fun G σ H F ρ x y dx dy Q S rx ry hg => ?_⟩
  cases ry with
  | str b =>
    cases rx with
    | str a => exact .inl ⟨a, b, rfl, rfl, hg H F S Sm.refl _ (.bl _)⟩
    | _ => exact hg.elim
  | @tup a xs ds hy ry =>
    have hg : Good X.K G W σ F ((if okD 12 dx = true ∧ okDs 12 ds = true then FR.ok (D.bl (ds.any fun y => eqv y dx)) else .stuck).lift ρ) (PD X.K Q) := by cases dx <;> exact hg
    split at hg
    · rename_i hz
      have p1 := okD_py 12 dx hz.1
      exact .inr ⟨py dx, pys ds, rep_dp 12 (rx.mono S.sub) hz.1, .inl (.tup (SqTm S.sub hy) (reps_dp 12 (ry.mono S.sub) hz.2)), p1.1, (okDs_py 12 ds hz.2).1, p1.2, by rw [any_py]; exact hg H F S Sm.refl _ (.bl _)⟩
    · exact hg.elim
  | @lst a xs ds hy ry =>
    have hg : Good X.K G W σ F ((if okD 12 dx = true ∧ okDs 12 ds = true then FR.ok (D.bl (ds.any fun y => eqv y dx)) else .stuck).lift ρ) (PD X.K Q) := by cases dx <;> exact hg
    split at hg
    · rename_i hz
      have p1 := okD_py 12 dx hz.1
      exact .inr ⟨py dx, pys ds, rep_dp 12 (rx.mono S.sub) hz.1, .inr (.lst (.of (S.sub _ _ hy)) (reps_dp 12 (ry.mono S.sub) hz.2)), p1.1, (okDs_py 12 ds hz.2).1, p1.2, by rw [any_py]; exact hg H F S Sm.refl _ (.bl _)⟩
    · exact hg.elim
  | _ => cases dx <;> exact hg.elim
theorem OA.notIn (hu : X.A.units + 64 < cLine) : OA X W (compareOp .NotIn) ninD := by
  refine ⟨_, op_notin_str.or (op_ninP hu), fun G σ H F ρ x y dx dy Q S rx ry hg => ?_⟩
  cases ry with
  | str b =>
    cases rx with
    | str a => exact .inl ⟨a, b, rfl, rfl, hg H F S Sm.refl _ (.bl _)⟩
    | _ => exact hg.elim
  | @tup a xs ds hy ry =>
    have hg : Good X.K G W σ F ((if okD 12 dx = true ∧ okDs 12 ds = true then FR.ok (D.bl (!ds.any fun y => eqv y dx)) else .stuck).lift ρ) (PD X.K Q) := by cases dx <;> exact hg
    split at hg
    · rename_i hz
      have p1 := okD_py 12 dx hz.1
      exact .inr ⟨py dx, pys ds, rep_dp 12 (rx.mono S.sub) hz.1, .inl (.tup (SqTm S.sub hy) (reps_dp 12 (ry.mono S.sub) hz.2)), p1.1, (okDs_py 12 ds hz.2).1, p1.2, by rw [any_py]; exact hg H F S Sm.refl _ (.bl _)⟩
    · exact hg.elim
  | @lst a xs ds hy ry =>
    have hg : Good X.K G W σ F ((if okD 12 dx = true ∧ okDs 12 ds = true then FR.ok (D.bl (!ds.any fun y => eqv y dx)) else .stuck).lift ρ) (PD X.K Q) := by cases dx <;> exact hg
    split at hg
    · rename_i hz
      have p1 := okD_py 12 dx hz.1
      exact .inr ⟨py dx, pys ds, rep_dp 12 (rx.mono S.sub) hz.1, .inr (.lst (.of (S.sub _ _ hy)) (reps_dp 12 (ry.mono S.sub) hz.2)), p1.1, (okDs_py 12 ds hz.2).1, p1.2, by rw [any_py]; exact hg H F S Sm.refl _ (.bl _)⟩
    · exact hg.elim
  | _ => cases dx <;> exact hg.elim
/-! ### built-in calls -/
theorem reps1 {K : PySem.W.Frag} {F : Hp} {vs : List V} {d : D} (r : Reps K F vs [d]) : ∃ v, vs = [v] ∧ Rep K F v d := by
  cases r with
  | cons h r => cases r; exact ⟨_, rfl, h⟩
theorem reps2 {K : PySem.W.Frag} {F : Hp} {vs : List V} {d e : D} (r : Reps K F vs [d, e]) : ∃ v u, vs = [v, u] ∧ Rep K F v d ∧ Rep K F u e := by
  cases r with
  | cons h r =>
    obtain ⟨u, rfl, h2⟩ := reps1 r
    exact ⟨_, u, rfl, h, h2⟩
theorem CA.len : CA X W (.builtin "len") lenD := by
  refine ⟨_, call_len, fun G σ H F ρ vs ds Q S r hg => ?_⟩
  match ds, hg with
  | [.str x], hg =>
    obtain ⟨v, rfl, rv⟩ := reps1 r
    cases rv
    simp only [lenD] at hg
    split at hg
    · rename_i hz; exact ⟨_, x.length, rfl, ⟨hz, rfl⟩, hg H F S Sm.refl _ (.int _)⟩
    · exact hg.elim
  | [.tup xs], hg =>
    obtain ⟨v, rfl, rv⟩ := reps1 r
    cases rv with
    | tup hx rx => exact ⟨_, xs.length, rfl, .inr ⟨_, SqTm S.sub hx, rx.length.symm⟩, hg H F S Sm.refl _ (.int _)⟩
  | [.lst xs], hg =>
    obtain ⟨v, rfl, rv⟩ := reps1 r
    cases rv with
    | lst hx rx => exact ⟨_, xs.length, rfl, .inl ⟨_, .of (S.sub _ _ hx), rx.length.symm⟩, hg H F S Sm.refl _ (.int _)⟩
  | [.frz xs], hg =>
    obtain ⟨v, rfl, rv⟩ := reps1 r
    cases rv with
    | frz hx rx => exact ⟨_, xs.length, rfl, .inl ⟨_, SqLm S.sub hx, rx.length.symm⟩, hg H F S Sm.refl _ (.int _)⟩
  | [], hg => exact hg.elim
  | _ :: _ :: _, hg => exact (by simp only [lenD] at hg; exact hg.elim)
  | [.non], hg => exact hg.elim
  | [.bl _], hg => exact hg.elim
  | [.int _], hg => exact hg.elim
  | [.obj _ _ _], hg => exact hg.elim
  | [.dct _ _], hg => exact hg.elim
  | [.opq _], hg => exact hg.elim
  | [.any], hg => exact hg.elim
theorem one_lst {g : List D → FR D} {h : List D → FR D} (e : ∀ ds, g ds = match ds with | [.lst xs] => h xs | _ => .stuck) {K : PySem.W.Frag} {G : Ent} {σ : St} {H F : Hp} {ρ : Ro} {vs : List V} {ds : List D} {Q : VK} (S : Stt K G σ H F ρ) (r : Reps K F vs ds)
    (hg : Good K G W σ F ((g ds).lift ρ) (PD K Q)) : ∃ a ws xs, vs = [V.ref a] ∧ H a = some (.lst ws) ∧ Reps K F ws xs ∧ Good K G W σ F ((h xs).lift ρ) (PD K Q) := by
  rw [e] at hg
  split at hg
  · obtain ⟨v, rfl, rv⟩ := reps1 r
    cases rv with
    | lst hx rx => exact ⟨_, _, _, rfl, S.sub _ _ hx, rx, hg⟩
  · exact hg.elim
theorem CA.sum (hc : X.calm = true) : CA X W (.builtin "sum") sumD := by
  refine ⟨_, cr_sum hc, fun G σ H F ρ vs ds Q S r hg => ?_⟩
  obtain ⟨a, ws, xs, rfl, h1, h2, h3⟩ := one_lst (h := fun xs => match intsD xs with | some ns => .ok (.int ns.sum) | none => .stuck) (fun ds => by unfold sumD; split <;> rfl) S r hg
  cases e : intsD xs with
  | none => rw [e] at h3; exact h3.elim
  | some ns =>
    rw [e] at h3
    rw [reps_ints h2 e] at h1
    exact ⟨a, ns, rfl, .of h1, h3 H F S Sm.refl _ (.int _)⟩
theorem CA.all (hc : X.calm = true) : CA X W (.builtin "all") allD := by
  refine ⟨_, cr_all hc, fun G σ H F ρ vs ds Q S r hg => ?_⟩
  obtain ⟨a, ws, xs, rfl, h1, h2, h3⟩ := one_lst (h := fun xs => match blsD xs with | some ns => .ok (.bl (ns.all id)) | none => .stuck) (fun ds => by unfold allD; split <;> rfl) S r hg
  cases e : blsD xs with
  | none => rw [e] at h3; exact h3.elim
  | some ns =>
    rw [e] at h3
    rw [reps_bls h2 e] at h1
    exact ⟨a, ns, rfl, .of h1, h3 H F S Sm.refl _ (.bl _)⟩
theorem CA.any (hc : X.calm = true) : CA X W (.builtin "any") anyD := by
  refine ⟨_, cr_any hc, fun G σ H F ρ vs ds Q S r hg => ?_⟩
  obtain ⟨a, ws, xs, rfl, h1, h2, h3⟩ := one_lst (h := fun xs => match blsD xs with | some ns => .ok (.bl (ns.any id)) | none => .stuck) (fun ds => by unfold anyD; split <;> rfl) S r hg
  cases e : blsD xs with
  | none => rw [e] at h3; exact h3.elim
  | some ns =>
    rw [e] at h3
    rw [reps_bls h2 e] at h1
    exact ⟨a, ns, rfl, .of h1, h3 H F S Sm.refl _ (.bl _)⟩
theorem CA.tuple : CA X W (.type "tuple") tupleD := by
  refine ⟨_, call_tuple_of, fun G σ H F ρ vs ds Q S r hg => ?_⟩
  unfold tupleD at hg
  split at hg
  · obtain ⟨v, rfl, rv⟩ := reps1 r
    cases rv with
    | lst hx rx => exact ⟨_, _, rfl, .inl ⟨.of (S.sub _ _ hx), fun l hl => newTup S rx hg hl⟩⟩
  · obtain ⟨v, rfl, rv⟩ := reps1 r
    cases rv with
    | tup hx rx => exact ⟨_, _, rfl, .inr ⟨SqTm S.sub hx, hg H F S Sm.refl _ (.tup hx rx)⟩⟩
  · exact hg.elim
theorem CA.list : CA X W (.type "list") listD := by
  refine ⟨_, call_list_of, fun G σ H F ρ vs ds Q S r hg => ?_⟩
  unfold listD at hg
  split at hg
  · obtain ⟨v, rfl, rv⟩ := reps1 r
    cases rv with
    | lst hx rx => exact ⟨_, _, rfl, .inl (.of (S.sub _ _ hx)), fun l hl => newLst S rx hg hl⟩
  · obtain ⟨v, rfl, rv⟩ := reps1 r
    cases rv with
    | tup hx rx => exact ⟨_, _, rfl, .inr (SqTm S.sub hx), fun l hl => newLst S rx hg hl⟩
  · obtain ⟨v, rfl, rv⟩ := reps1 r
    cases rv with
    | frz hx rx => exact ⟨_, _, rfl, .inl (SqLm S.sub hx), fun l hl => newLst S rx hg hl⟩
  · exact hg.elim
theorem CA.int : CA X W (.type "int") intD := by
  refine ⟨_, call_int1, fun G σ H F ρ vs ds Q S r hg => ?_⟩
  unfold intD at hg
  split at hg
  · obtain ⟨v, rfl, rv⟩ := reps1 r
    cases rv
    exact .inl ⟨_, rfl, hg H F S Sm.refl _ (.int _)⟩
  · obtain ⟨v, rfl, rv⟩ := reps1 r
    cases rv
    exact .inr ⟨_, rfl, hg H F S Sm.refl _ (.int _)⟩
  · exact hg.elim
theorem CA.abs : CA X W (.builtin "abs") absD := by
  refine ⟨_, call_abs, fun G σ H F ρ vs ds Q S r hg => ?_⟩
  unfold absD at hg
  split at hg
  · obtain ⟨v, rfl, rv⟩ := reps1 r
    cases rv
    exact ⟨_, rfl, hg H F S Sm.refl _ (.int _)⟩
  · exact hg.elim
theorem CA.max2 (hc : X.calm = true) : CA X W (.builtin "max") max2D := by
  refine ⟨_, call_max2 hc, fun G σ H F ρ vs ds Q S r hg => ?_⟩
  unfold max2D at hg
  split at hg
  · obtain ⟨v, u, rfl, rv, ru⟩ := reps2 r
    cases rv; cases ru
    exact ⟨_, _, rfl, hg H F S Sm.refl _ (.int _)⟩
  · exact hg.elim
theorem CA.min2 (hc : X.calm = true) : CA X W (.builtin "min") min2D := by
  refine ⟨_, call_min2 hc, fun G σ H F ρ vs ds Q S r hg => ?_⟩
  unfold min2D at hg
  split at hg
  · obtain ⟨v, u, rfl, rv, ru⟩ := reps2 r
    cases rv; cases ru
    exact ⟨_, _, rfl, hg H F S Sm.refl _ (.int _)⟩
  · exact hg.elim
/-- isinstance of a built-in class -/
def tyN : D → Option String
  | .non => some "NoneType" | .bl _ => some "bool" | .int _ => some "int" | .str _ => some "str" | .tup _ => some "tuple" | .lst _ => some "list" | .dct _ _ => some "dict" | _ => none
theorem isKind_kit {K : PySem.W.Frag} {T : String} {d : D} {b : Bool} (h : isKind T d = some b) : ∃ t, tyN d = some t ∧ kitB t T = some b := by
  have key0 : ∀ t ∈ ["NoneType", "bool", "int", "str", "tuple", "list", "dict"], ∀ T ∈ ["int", "bool", "str", "tuple", "list", "dict"], kitB t T = some (decide (t = T) || decide (t = "bool" ∧ T = "int")) := by decide +kernel
  have key : ∀ t T : String, t ∈ ["NoneType", "bool", "int", "str", "tuple", "list", "dict"] → T ∈ ["int", "bool", "str", "tuple", "list", "dict"] → kitB t T = some (decide (t = T) || decide (t = "bool" ∧ T = "int")) := fun t T h1 h2 => key0 t h1 T h2
  cases d with
  | non =>
    refine ⟨_, rfl, ?_⟩
    simp only [isKind] at h
    split at h
    · rename_i hT; cases h
      rcases hT with rfl | rfl | rfl | rfl | rfl | rfl <;> exact key _ _ (by decide) (by decide)
    · cases h
  | bl _ =>
    refine ⟨_, rfl, ?_⟩
    simp only [isKind] at h
    split at h
    · rename_i hT; cases h
      rcases hT with rfl | rfl <;> exact key _ _ (by decide) (by decide)
    · split at h
      · rename_i hT; cases h
        rcases hT with rfl | rfl | rfl | rfl <;> exact key _ _ (by decide) (by decide)
      · cases h
  | int _ =>
    refine ⟨_, rfl, ?_⟩
    simp only [isKind] at h
    split at h
    · rename_i hT; cases h
      subst hT; exact key _ _ (by decide) (by decide)
    · split at h
      · rename_i hT; cases h
        rcases hT with rfl | rfl | rfl | rfl | rfl <;> exact key _ _ (by decide) (by decide)
      · cases h
  | str _ =>
    refine ⟨_, rfl, ?_⟩
    simp only [isKind] at h
    split at h
    · rename_i hT; cases h
      subst hT; exact key _ _ (by decide) (by decide)
    · split at h
      · rename_i hT; cases h
        rcases hT with rfl | rfl | rfl | rfl | rfl <;> exact key _ _ (by decide) (by decide)
      · cases h
  | tup _ =>
    refine ⟨_, rfl, ?_⟩
    simp only [isKind] at h
    split at h
    · rename_i hT; cases h
      subst hT; exact key _ _ (by decide) (by decide)
    · split at h
      · rename_i hT; cases h
        rcases hT with rfl | rfl | rfl | rfl | rfl <;> exact key _ _ (by decide) (by decide)
      · cases h
  | lst _ =>
    refine ⟨_, rfl, ?_⟩
    simp only [isKind] at h
    split at h
    · rename_i hT; cases h
      subst hT; exact key _ _ (by decide) (by decide)
    · split at h
      · rename_i hT; cases h
        rcases hT with rfl | rfl | rfl | rfl | rfl <;> exact key _ _ (by decide) (by decide)
      · cases h
  | frz _ => cases h
  | obj _ _ _ => cases h
  | dct _ _ =>
    refine ⟨_, rfl, ?_⟩
    simp only [isKind] at h
    split at h
    · rename_i hT; cases h
      subst hT; exact key _ _ (by decide) (by decide)
    · split at h
      · rename_i hT; cases h
        rcases hT with rfl | rfl | rfl | rfl | rfl <;> exact key _ _ (by decide) (by decide)
      · cases h
  | opq _ => cases h
  | any => cases h
theorem tyx_of {K : PySem.W.Frag} {H : Hp} {v : V} {d : D} {t : String} (r : Rep K H v d) (h : tyN d = some t) : TyX K H v (.type t) := by
  cases r with
  | non => cases h; exact .base .non
  | bl b => cases h; exact .base (.bl b)
  | int i => cases h; exact .base (.int i)
  | str x => cases h; exact .base (.str x)
  | tup s r =>
    cases h
    rcases s with (s | ⟨o, s⟩) | ⟨o, its, n, hk, hc, _⟩
    · exact .base (.tup s)
    · exact .fTuple s
    · exact .kTuple hk hc
  | lst s r => cases h; exact .base (.lst s)
  | frz s r => cases h
  | obj _ _ _ _ => cases h
  | dct s _ _ => cases h; exact .base (.dK s)
  | opq v => cases h
  | any => cases h
theorem CA.isi : CA X W (.builtin "isinstance") isiD := by
  refine ⟨_, call_isi, fun G σ H F ρ vs ds Q S r hg => ?_⟩
  unfold isiD at hg
  split at hg
  · rename_i d T
    obtain ⟨v, u, rfl, rv, ru⟩ := reps2 r
    cases ru
    cases e : isKind T d with
    | none => rw [e] at hg; exact hg.elim
    | some b =>
      rw [e] at hg
      obtain ⟨t, e1, e2⟩ := isKind_kit (K := X.K) e
      exact ⟨v, .ty T, .type t, .type T, b, rfl, .ty T, tyx_of (rv.mono S.sub) e1, kit_ty e2, hg H F S Sm.refl _ (.bl b)⟩
  · exact hg.elim
/-! ### subscripts -/
variable {a b e : Expr} {fa fb fl fh : M D} {pos : Pos}
theorem IxR.or {r r' : R2} (h : IxR X r) (h' : IxR X r') : IxR X (fun x y H Q => r x y H Q ∨ r' x y H Q) := by
  intro value slice pins s σ H x y v u Q I rx ry q hs
  rcases q with q | q
  · exact h value slice pins s σ H x y v u Q I rx ry q hs
  · exact h' value slice pins s σ H x y v u Q I rx ry q hs
theorem AE.ix (ha : AE X W a fa) (hb : AE X W b fb) (hs : PlainIx b := by exact fun _ _ => rfl) : AE X W (.Subscript a b pos) (m2 ixD fa fb) := by
  obtain ⟨ta, pa, qa⟩ := ha
  obtain ⟨tb, pb, qb⟩ := hb
  refine ⟨_, pe_ix (IxR.or ix_list (IxR.or ix_tup ix_str)) pa pb hs, fun G σ H F ρ Q S hg => qa G σ H F ρ _ S (hg.bind fun dx ρ1 H1 F1 S1 s1 g1 v r1 => qb G σ H1 F1 ρ1 _ S1 (g1.bind fun dy ρ2 H2 F2 S2 s2 g2 u r2 => ?_))⟩
  have r1 := r1.mono s2
  cases r2 with
  | int i =>
    cases r1 with
    | str x =>
      simp only [ixD] at g2
      split at g2
      · rename_i hz
        split at g2
        · rename_i c hc
          exact .inr (.inr ⟨x, i, c, rfl, rfl, hz, hc, g2 H2 F2 S2 Sm.refl _ (.str _)⟩)
        · exact g2.elim
      · exact g2.elim
    | tup hx rx =>
      simp only [ixD] at g2
      split at g2
      · rename_i d hd
        obtain ⟨w, e1, rw_⟩ := reps_at rx hd
        exact .inr (.inl ⟨_, _, i, w, rfl, rfl, SqTm S2.sub hx, e1, g2 H2 F2 S2 Sm.refl _ rw_⟩)
      · exact g2.elim
    | lst hx rx =>
      simp only [ixD] at g2
      split at g2
      · rename_i d hd
        obtain ⟨w, e1, rw_⟩ := reps_at rx hd
        exact .inl ⟨_, _, i, w, rfl, rfl, .of (S2.sub _ _ hx), e1, g2 H2 F2 S2 Sm.refl _ rw_⟩
      · exact g2.elim
    | frz hx rx =>
      simp only [ixD] at g2
      split at g2
      · rename_i d hd
        obtain ⟨w, e1, rw_⟩ := reps_at rx hd
        exact .inl ⟨_, _, i, w, rfl, rfl, SqLm S2.sub hx, e1, g2 H2 F2 S2 Sm.refl _ rw_⟩
      · exact g2.elim
    | _ => exact g2.elim
  | _ => exact (by cases dx <;> exact g2.elim)
/-- an end of a slice -/
def AO (X : Cx) (W : WX) (e : Option Expr) (f : M (Option Int)) : Prop := ∃ t, PO X e t ∧ ∀ G σ H F ρ Q, Stt X.K G σ H F ρ → Good X.K G W σ F (f ρ) (fun o _ H' _ => Q o H') → t σ H Q
def mONone : M (Option Int) := fun ρ => .ok none ρ
def mOSome (f : M D) : M (Option Int) := fun ρ => (f ρ).bind fun d ρ => match d with
  | .int i => .ok (some i) ρ
  | _ => .stuck
theorem AO.none : AO X W none mONone := ⟨_, po_none, fun G σ H F ρ Q S hg => hg H F S Sm.refl⟩
theorem AO.some (h : AE X W e fa) : AO X W (some e) (mOSome fa) := by
  obtain ⟨t, p, q⟩ := h
  refine ⟨_, po_some p, fun G σ H F ρ Q S hg => q G σ H F ρ _ S (hg.bind fun d ρ1 H1 F1 S1 s1 g1 v r1 => ?_)⟩
  cases r1 with
  | int i => exact ⟨i, rfl, g1 H1 F1 S1 Sm.refl⟩
  | _ => exact g1.elim
def mSlice (f : M D) (l h : M (Option Int)) : M D := fun ρ => (f ρ).bind fun x ρ => (l ρ).bind fun lo ρ => (h ρ).bind fun hi ρ => (sliceD x lo hi).lift ρ
theorem reps_cut {K : PySem.W.Frag} {H : Hp} {vs : List V} {ds : List D} (r : Reps K H vs ds) (lo hi : Option Int) : Reps K H (cutV vs lo hi) (cutD ds lo hi) := by
  unfold cutV cutD
  rw [r.length]
  exact (r.drop _).take _
theorem cutD_whole {ds : List D} {lo hi : Option Int} (h : HT.sIx ds.length 0 lo = 0 ∧ HT.sIx ds.length ds.length hi = ds.length) : cutD ds lo hi = ds := by
  unfold cutD
  rw [h.1, h.2]
  simp
theorem AE.slice {lo hi : Option Expr} {p2 : Pos} {ml mh : M (Option Int)} (he : AE X W e fa) (hl : AO X W lo ml) (hh : AO X W hi mh) : AE X W (.Subscript e (.Slice lo hi Option.none p2) pos) (mSlice fa ml mh) := by
  obtain ⟨t, p, q⟩ := he
  obtain ⟨tl, pl, ql⟩ := hl
  obtain ⟨th, ph, qh⟩ := hh
  refine ⟨_, pe_slice (sl_list.or (sl_tupA.or sl_str)) p pl ph, fun G σ H F ρ Q S hg => q G σ H F ρ _ S (hg.bind fun d ρ1 H1 F1 S1 s1 g1 v r1 => ql G σ H1 F1 ρ1 _ S1 (g1.bind fun o ρ2 H2 F2 S2 s2 g2 => qh G σ H2 F2 ρ2 _ S2 (g2.bind fun o' ρ3 H3 F3 S3 s3 g3 => ?_)))⟩
  have r1 := r1.mono (s2.tr s3)
  cases r1 with
  | tup hx rx =>
    refine .inr (.inl ⟨_, _, rfl, SqTm S3.sub hx, fun h => ?_, fun h p hp => newTup S3 (reps_cut rx o o') g3 hp⟩)
    rw [rx.length] at h
    have g3 : Good X.K G W σ F3 (.ok (.tup (cutD _ o o')) ρ3) (PD X.K Q) := g3
    rw [cutD_whole h] at g3
    exact g3 H3 F3 S3 Sm.refl _ (.tup hx rx)
  | lst hx rx => exact .inl ⟨_, _, rfl, .of (S3.sub _ _ hx), fun p hp => newLst S3 (reps_cut rx o o') g3 hp⟩
  | frz hx rx => exact .inl ⟨_, _, rfl, SqLm S3.sub hx, fun p hp => newLst S3 (reps_cut rx o o') g3 hp⟩
  | str z =>
    simp only [sliceD] at g3
    split at g3
    · rename_i hz
      exact .inr (.inr ⟨z, rfl, hz, g3 H3 F3 S3 Sm.refl _ (.str _)⟩)
    · exact g3.elim
  | _ => exact g3.elim
end
end Mr
namespace Mr
open PySem PySem.Spec PyProof.Rows L2
variable [Lam] [Pins]

/-! ### what is walked -/
/-- ds come, one a turn, in every later state -/
def ItOk (K : PySem.W.Frag) (J : It) (F : Hp) (ds : List D) : Prop :=
  ∀ (i : Nat) (H F' : Hp), Sm F F' → Sm F' H → (ds.length = i → J.stop i H) ∧ ∀ d, ds[i]? = some d → J.go i H ∧ ∀ x H', J.yld i H x H' → ∃ F'', Aft K H F' H' F'' ∧ Rep K F'' x d
theorem ItOk.mono {K : PySem.W.Frag} {J : It} {F F1 : Hp} {ds : List D} (h : ItOk K J F ds) (s : Sm F F1) : ItOk K J F1 ds := fun i H F' s1 s2 => h i H F' (s.tr s1) s2
theorem Aft.refl {K : PySem.W.Frag} {H F : Hp} (s : Sm F H) : Aft K H F H F := ⟨Sm.refl.t, s, Sm.refl, fun _ _ e => .inl e, id⟩
theorem Aft.tup {K : PySem.W.Frag} {H F : Hp} (s : Sm F H) {p : Addr} {o : HO} (hp : H p = none) (ho : isTb o = false := by rfl) : Aft K H F (upd H p o) (upd F p o) :=
  ⟨(Sm.updN hp).t, fun a u h => by
    by_cases e : a = p
    · subst e; rw [upd_same] at h ⊢; exact h
    · rw [upd_ne e] at h ⊢; exact s a u h, Sm.updN (s.none hp), fun a u h => by
    by_cases e : a = p
    · subst e; exact .inr (.of hp)
    · rw [upd_ne e] at h; exact .inl h, fun z => z.upd ho⟩
def AI (X : Cx) (W : WX) (tg it : Expr) (f : M (List D)) : Prop :=
  ∃ wi, PI X tg it wi ∧ ∀ G σ H F ρ R, Stt X.K G σ H F ρ → Good X.K G W σ F (f ρ) (fun ds _ H' F' => ∀ J, ItOk X.K J F' ds → R J H') → wi σ H R

/-- what a for walks: a list, a tuple, a text -/
def walkD : D → FR (List D)
  | .lst xs => .ok xs
  | .frz xs => .ok xs
  | .tup xs => .ok xs
  | .str x => .ok (x.cps.toList.map fun c => .str ⟨#[c]⟩)
  | _ => .stuck
def mWalk (f : M D) : M (List D) := fun ρ => (f ρ).bind fun x ρ => (walkD x).lift ρ
def rangeD (lo hi : Int) : List D := (List.range (hi - lo).toNat).map fun (k : Nat) => .int (lo + (k : Int))
def range1D : List D → FR (List D)
  | [.int j] => if I62 j then .ok (rangeD 0 j) else .stuck
  | _ => .stuck
def range2D : List D → FR (List D)
  | [.int i, .int j] => if I62 i ∧ I62 j then .ok (rangeD i j) else .stuck
  | _ => .stuck
def zipD : List D → FR (List D)
  | [.lst xs, .lst ys] => .ok (xs.zipWith (fun x y => .tup [x, y]) ys)
  | [.tup xs, .tup ys] => .ok (xs.zipWith (fun x y => .tup [x, y]) ys)
  | _ => .stuck
def mItL (g : List D → FR (List D)) (a : M (List D)) : M (List D) := fun ρ => (a ρ).bind fun xs ρ => (g xs).lift ρ

section
variable {X : Cx} {W : WX} {tg : Expr}
def iAny (K : PySem.W.Frag) (tl : TE) : TI := fun σ H R => tl σ H fun x H1 =>
  (∃ a xs, x = .ref a ∧ SqL K H1 a xs ∧ R (Itl K a) H1) ∨ (∃ a xs, x = .ref a ∧ SqT K H1 a xs ∧ R (Itt K a) H1) ∨ ∃ z, x = .str z ∧ R (Its z) H1
theorem one_it {pins : List (Addr × Obj)} {σ : St} {H : Hp} {s : Shared} {R : It → Hp → Prop} {J : It} {tn : Nat → Heap → Prop} {tk : Nat} {o : Obj} (I : Inv X pins σ H s) (T : Turn X.prog X.w X.K tg J [s.heap.objs.size] s.heap.objs.size tn) (h0 : tn 0 (s.heap.push o)) (q : R J H) :
    PIE X pins σ tg R (.ref s.heap.objs.size) { s with heap := s.heap.push o, toks := tk } :=
  ⟨s.heap.objs.size, [s.heap.objs.size], tn, J, H, rfl, I.kept (t' := tk) fun _ _ e => Heap.get?_push_of_some _ e, T, h0, fun b hb => by
    rw [List.mem_singleton] at hb
    subst hb
    exact I.fpOk (Nat.le_refl _) (I.hok.fresh (Nat.le_refl _)), q⟩
theorem pi_any {l : Expr} {tl : TE} (hl : PE X l tl) : PI X tg l (iAny X.K tl) := by
  refine ⟨fun pins s σ H R I h => ?_⟩
  refine thn (hl.run pins s σ H _ I h) fun v s1 ⟨x, H1, I1, r1, q1⟩ => ?_
  rcases q1 with ⟨a, xs, rfl, hq, q⟩ | ⟨a, xs, rfl, hq, q⟩ | ⟨z, rfl, q⟩
  · cases r1
    obtain ⟨its, _, p, _⟩ := I1.list hq
    exact wpAny_pyIter_list p.isList (one_it (tk := s1.toks) I1 (turn_list a _) ⟨_, Heap.get?_push_size _ rfl, rfl, rfl⟩ q)
  · cases r1
    obtain ⟨its, _, p, _⟩ := I1.tuple hq
    exact wpAny_pyIter_tuple (show s1.heap.IsTuple a its.toArray from p) (one_it (tk := s1.toks) I1 (turn_tuple a _) ⟨_, Heap.get?_push_size _ rfl, rfl, rfl⟩ q)
  · obtain ⟨t, rfl⟩ := r1
    cases ha : z.cps.all (· < 128) with
    | false => exact wpAny_pyIter_wide ha (one_it (tk := s1.toks) I1 (turn_str _ z t "str_iterator" (.inr rfl)) ⟨_, Heap.get?_push_size _ rfl, rfl, rfl⟩ q)
    | true => exact wpAny_pyIter_ascii ha (one_it (tk := s1.toks) I1 (turn_str _ z t "str_ascii_iterator" (.inl rfl)) ⟨_, Heap.get?_push_size _ rfl, rfl, rfl⟩ q)
theorem okL {K : PySem.W.Frag} {F : Hp} {a : Addr} {vs : List V} {ds : List D} (h : SqL K F a vs) (r : Reps K F vs ds) : ItOk K (Itl K a) F ds := fun i H F' s1 s2 => by
  have h' : SqL K H a vs := SqLm (s1.tr s2) h
  refine ⟨fun hi => ⟨vs, h', by rw [r.length]; exact Nat.le_of_eq hi⟩, fun d hd => ?_⟩
  obtain ⟨v, e, rv⟩ := r.get i hd
  exact ⟨⟨vs, v, h', e⟩, fun x H' ⟨e1, e2⟩ => by
    subst e1
    have := (e2 vs h').symm.trans e
    cases this
    exact ⟨F', .refl s2, rv.mono s1⟩⟩
theorem okT {K : PySem.W.Frag} {F : Hp} {a : Addr} {vs : List V} {ds : List D} (h : SqT K F a vs) (r : Reps K F vs ds) : ItOk K (Itt K a) F ds := fun i H F' s1 s2 => by
  have h' : SqT K H a vs := SqTm (s1.tr s2) h
  refine ⟨fun hi => ⟨vs, h', by rw [r.length]; exact Nat.le_of_eq hi⟩, fun d hd => ?_⟩
  obtain ⟨v, e, rv⟩ := r.get i hd
  exact ⟨⟨vs, v, h', e⟩, fun x H' ⟨e1, e2⟩ => by
    subst e1
    have := (e2 vs h').symm.trans e
    cases this
    exact ⟨F', .refl s2, rv.mono s1⟩⟩
theorem okS {K : PySem.W.Frag} {F : Hp} {z : Str} : ItOk K (Its z) F (z.cps.toList.map fun c => .str ⟨#[c]⟩) := fun i H F' s1 s2 => by
  refine ⟨fun hi => ?_, fun d hd => ?_⟩
  · show z.cps.size ≤ i
    have := Nat.le_of_eq hi
    simpa using this
  · rw [List.getElem?_map] at hd
    obtain ⟨c, e, rfl⟩ := Option.map_eq_some_iff.mp hd
    have e' : z.cps[i]? = some c := by simpa using e
    refine ⟨(Array.getElem?_eq_some_iff.mp e').1, fun x H' ⟨e1, c', e2, e3⟩ => ?_⟩
    subst e1
    rw [e'] at e2; cases e2
    subst e3
    exact ⟨F', .refl s2, .str _⟩
theorem okR {K : PySem.W.Frag} {F : Hp} {lo hi : Int} : ItOk K (Itr lo (hi - lo).toNat) F (rangeD lo hi) := fun i H F' s1 s2 => by
  refine ⟨fun hi' => ?_, fun d hd => ?_⟩
  · show (hi - lo).toNat ≤ i
    have := Nat.le_of_eq hi'
    simpa [rangeD] using this
  · unfold rangeD at hd
    rw [List.getElem?_map] at hd
    obtain ⟨c, e, rfl⟩ := Option.map_eq_some_iff.mp hd
    obtain ⟨hl, e⟩ := List.getElem?_eq_some_iff.mp e
    rw [List.getElem_range] at e
    subst e
    refine ⟨by rw [List.length_range] at hl; exact hl, fun x H' ⟨e1, e2⟩ => ?_⟩
    subst e1 e2
    exact ⟨F', .refl s2, .int _⟩
theorem zip_len {α β γ : Type} {f : α → β → γ} {xs : List α} {ys : List β} {i : Nat} (h : (List.zipWith f xs ys).length ≤ i) : xs.length ≤ i ∨ ys.length ≤ i := by
  rw [List.length_zipWith] at h
  omega
theorem zip_get {α β γ : Type} {f : α → β → γ} {xs : List α} {ys : List β} {i : Nat} {d : γ} (h : (List.zipWith f xs ys)[i]? = some d) : ∃ x y, xs[i]? = some x ∧ ys[i]? = some y ∧ d = f x y := by
  rw [List.getElem?_zipWith] at h
  cases e1 : xs[i]? with
  | none => rw [e1] at h; cases h
  | some x =>
    cases e2 : ys[i]? with
    | none => rw [e1, e2] at h; cases h
    | some y => rw [e1, e2] at h; exact ⟨x, y, rfl, rfl, (Option.some.inj h).symm⟩
theorem okZ {K : PySem.W.Frag} {F : Hp} {a b : Addr} {vs us : List V} {ds es : List D} (h : SqL K F a vs) (r : Reps K F vs ds) (h' : SqL K F b us) (r' : Reps K F us es) : ItOk K (Itz K a b) F (ds.zipWith (fun x y => .tup [x, y]) es) := fun i H F' s1 s2 => by
  have h1 := SqLm (s1.tr s2) h
  have h2 := SqLm (s1.tr s2) h'
  refine ⟨fun hi => ⟨vs, us, h1, h2, by rw [r.length, r'.length]; exact zip_len (Nat.le_of_eq hi)⟩, fun d hd => ?_⟩
  obtain ⟨x, y, e1, e2, rfl⟩ := zip_get hd
  obtain ⟨v, f1, rv⟩ := r.get i e1
  obtain ⟨u, f2, ru⟩ := r'.get i e2
  refine ⟨⟨vs, us, v, u, h1, h2, f1, f2⟩, fun z H' ⟨T, x', y', ez, hT, eH, k1, k2⟩ => ?_⟩
  have q1 := (k1 vs h1).symm.trans f1
  have q2 := (k2 us h2).symm.trans f2
  cases q1; cases q2
  subst ez eH
  exact ⟨upd F' T (.tup [v, u]), .tup s2 hT, .tup (.of upd_same) (.cons (rv.mono (s1.tr (Sm.updN (s2.none hT)))) (.cons (ru.mono (s1.tr (Sm.updN (s2.none hT)))) .nil))⟩
theorem okZT {K : PySem.W.Frag} {F : Hp} {a b : Addr} {vs us : List V} {ds es : List D} (h : SqT K F a vs) (r : Reps K F vs ds) (h' : SqT K F b us) (r' : Reps K F us es) : ItOk K (RZ.ItzT K a b) F (ds.zipWith (fun x y => .tup [x, y]) es) := fun i H F' s1 s2 => by
  have h1 := SqTm (s1.tr s2) h
  have h2 := SqTm (s1.tr s2) h'
  refine ⟨fun hi => ⟨vs, us, h1, h2, by rw [r.length, r'.length]; exact zip_len (Nat.le_of_eq hi)⟩, fun d hd => ?_⟩
  obtain ⟨x, y, e1, e2, rfl⟩ := zip_get hd
  obtain ⟨v, f1, rv⟩ := r.get i e1
  obtain ⟨u, f2, ru⟩ := r'.get i e2
  refine ⟨⟨vs, us, v, u, h1, h2, f1, f2⟩, fun z H' ⟨T, x', y', ez, hT, eH, k1, k2⟩ => ?_⟩
  have q1 := (k1 vs h1).symm.trans f1
  have q2 := (k2 us h2).symm.trans f2
  cases q1; cases q2
  subst ez eH
  exact ⟨upd F' T (.tup [v, u]), .tup s2 hT, .tup (.of upd_same) (.cons (rv.mono (s1.tr (Sm.updN (s2.none hT)))) (.cons (ru.mono (s1.tr (Sm.updN (s2.none hT)))) .nil))⟩
variable {e e2 : Expr} {fe : M D} {fs : M (List D)} {p pos : Pos}
theorem AI.any (h : AE X W e fe) : AI X W tg e (mWalk fe) := by
  obtain ⟨t, pe, qe⟩ := h
  refine ⟨_, pi_any pe, fun G σ H F ρ R S hg => qe G σ H F ρ _ S (hg.bind fun d ρ1 H1 F1 S1 s1 g1 v r1 => ?_)⟩
  cases r1 with
  | lst hx rx => exact .inl ⟨_, _, rfl, .of (S1.sub _ _ hx), g1 H1 F1 S1 Sm.refl _ (okL (.of hx) rx)⟩
  | frz hx rx => exact .inl ⟨_, _, rfl, SqLm S1.sub hx, g1 H1 F1 S1 Sm.refl _ (okL hx rx)⟩
  | tup hx rx => exact .inr (.inl ⟨_, _, rfl, SqTm S1.sub hx, g1 H1 F1 S1 Sm.refl _ (okT hx rx)⟩)
  | str z => exact .inr (.inr ⟨z, rfl, g1 H1 F1 S1 Sm.refl _ okS⟩)
  | _ => exact g1.elim
theorem AI.range1 (hg : Gl X "range") (hm : X.mg "range" = none) (ha : AA X W [e] fs) (hs : starEach [e] X.env = [(false, eval e X.env)] := by rfl) : AI X W tg (.Call (.Name "range" p) [e] [] pos) (mItL range1D fs) := by
  obtain ⟨t, pa, qa⟩ := ha
  refine ⟨_, pi_range1 hg hm pa hs, fun G σ H F ρ R S hgd => qa G σ H F ρ _ S (hgd.bind fun ds ρ1 H1 F1 S1 s1 g1 vs r1 => ?_)⟩
  unfold range1D at g1
  split at g1
  · split at g1
    · rename_i hz
      obtain ⟨v, rfl, rv⟩ := reps1 r1
      cases rv
      exact ⟨_, rfl, hz.1, hz.2, g1 H1 F1 S1 Sm.refl _ (by simpa using okR (lo := 0))⟩
    · exact g1.elim
  · exact g1.elim
theorem AI.range2 (hg : Gl X "range") (hm : X.mg "range" = none) (ha : AA X W [e, e2] fs) (hs : starEach [e, e2] X.env = [(false, eval e X.env), (false, eval e2 X.env)] := by rfl) (hs2 : starEach [e2] X.env = [(false, eval e2 X.env)] := by rfl) :
    AI X W tg (.Call (.Name "range" p) [e, e2] [] pos) (mItL range2D fs) := by
  obtain ⟨t, pa, qa⟩ := ha
  refine ⟨_, pi_range2 hg hm pa hs hs2, fun G σ H F ρ R S hgd => qa G σ H F ρ _ S (hgd.bind fun ds ρ1 H1 F1 S1 s1 g1 vs r1 => ?_)⟩
  unfold range2D at g1
  split at g1
  · split at g1
    · rename_i hz
      obtain ⟨v, u, rfl, rv, ru⟩ := reps2 r1
      cases rv; cases ru
      exact ⟨_, _, rfl, ⟨hz.1.1, hz.1.2, hz.2.1, hz.2.2⟩, g1 H1 F1 S1 Sm.refl _ okR⟩
    · exact g1.elim
  · exact g1.elim
theorem AI.zip {tpos : Pos} {elts : List Expr} {kk : Nat} (hg : Gl X "zip") (hm : X.mg "zip" = none) (ha : AA X W [e, e2] fs) (hs : starEach [e, e2] X.env = (false, eval e X.env) :: starEach [e2] X.env := by rfl) (hpl : (backTo pos (starEach [e2] X.env)).any (·.1) = false := by rfl) :
    AI X W (.Tuple elts kk tpos) (.Call (.Name "zip" p) [e, e2] [] pos) (mItL zipD fs) := by
  obtain ⟨t, pa, qa⟩ := ha
  refine ⟨_, RZ.pi_zipA hg hm pa hs hpl, fun G σ H F ρ R S hgd => qa G σ H F ρ _ S (hgd.bind fun ds ρ1 H1 F1 S1 s1 g1 vs r1 => ?_)⟩
  unfold zipD at g1
  split at g1
  · obtain ⟨v, u, rfl, rv, ru⟩ := reps2 r1
    cases rv with
    | lst hx rx =>
      cases ru with
      | lst hy ry => exact ⟨_, _, _, _, rfl, .inl ⟨.of (S1.sub _ _ hx), .of (S1.sub _ _ hy), g1 H1 F1 S1 Sm.refl _ (okZ (.of hx) rx (.of hy) ry)⟩⟩
  · obtain ⟨v, u, rfl, rv, ru⟩ := reps2 r1
    cases rv with
    | tup hx rx =>
      cases ru with
      | tup hy ry => exact ⟨_, _, _, _, rfl, .inr ⟨SqTm S1.sub hx, SqTm S1.sub hy, g1 H1 F1 S1 Sm.refl _ (okZT hx rx hy ry)⟩⟩
  · exact g1.elim
end

/-! ### targets -/
/-- the slots that a target stores to -/
inductive Tg where
  | sl (i : Nat)
  | tp (ts : List Tg)
mutual
def putT : Tg → D → Ro → R Unit
  | .sl i, d, ρ => if (ρ.getD i .un).isIo = true then .stuck else .ok () (ρ.set i (.val d))
  | .tp ts, .tup xs, ρ => if xs.length = lenT ts then putTs ts xs ρ else .stuck
  | .tp _, _, _ => .stuck
def putTs : List Tg → List D → Ro → R Unit
  | [], [], ρ => .ok () ρ
  | t :: ts, x :: xs, ρ => (putT t x ρ).bind fun _ ρ => putTs ts xs ρ
  | _, _, _ => .stuck
def lenT : List Tg → Nat
  | [] => 0
  | _ :: ts => lenT ts + 1
end
mutual
/-- the slots of a target -/
def slT : Tg → List Nat
  | .sl i => [i]
  | .tp ts => slTs ts
def slTs : List Tg → List Nat
  | [] => []
  | t :: ts => slT t ++ slTs ts
end
/-- behind stores: the slots may be others -/
def GoodT (K : PySem.W.Frag) (G : Ent) (F : Hp) (σ : St) (sl : List Nat) (r : R Unit) (Q : St → Hp → Prop) : Prop := match r with
  | .ok _ ρ => ∀ σ' H' F', Stt K G σ' H' F' ρ → Sm F F' → (∀ i, i ∉ sl → σ'[i]? = σ[i]?) → Q σ' H'
  | _ => False
theorem GoodT.mono {K : PySem.W.Frag} {G : Ent} {F F1 : Hp} {σ : St} {sl : List Nat} {r : R Unit} {Q : St → Hp → Prop} (s : Sm F F1) (h : GoodT K G F σ sl r Q) : GoodT K G F1 σ sl r Q := by
  cases r with
  | ok a ρ => exact fun σ' H' F' S q => h σ' H' F' S (s.tr q)
  | exc x ρ => exact h
  | stuck => exact h
def AG (X : Cx) (tg : Expr) (t : Tg) : Prop := ∃ g, PG X tg g ∧ ∀ G σ H F ρ v d Q, Stt X.K G σ H F ρ → Rep X.K F v d → GoodT X.K G F σ (slT t) (putT t d ρ) Q → g v σ H Q
def AGs (X : Cx) (tg : List Expr) (t : List Tg) : Prop := ∃ g, PGs X tg g ∧ ∀ G σ H F ρ vs ds Q, Stt X.K G σ H F ρ → Reps X.K F vs ds → GoodT X.K G F σ (slTs t) (putTs t ds ρ) Q → g vs σ H Q
section
variable {X : Cx} {pos : Pos}
theorem AG.name {i : Nat} {x : Str} (hN : X.N.Nodup) (hi : X.N[i]? = some x) (hx : Loc X.env.scope x) (hf : X.fn x = true ∨ X.env.scope.names.lookup x = some .local := by first | exact .inl rfl | exact .inr rfl) : AG X (.Name x pos) (.sl i) := by
  refine ⟨_, pg_name hN hi hx hf, fun G σ H F ρ v d Q S r hg => ?_⟩
  unfold putT at hg
  split at hg
  · exact hg.elim
  · rename_i h
    exact hg _ H F (S.setVal (by simpa using h) r) Sm.refl fun j hj => List.getElem?_set_ne (fun e => hj (by simp [slT, e]))
theorem AGs.nil : AGs X [] [] := ⟨_, pgs_nil, fun G σ H F ρ vs ds Q S r hg => by
  cases r with
  | nil => exact ⟨rfl, hg σ H F S Sm.refl fun _ _ => rfl⟩
  | cons => exact hg.elim⟩
theorem AGs.cons {e : Expr} {es : List Expr} {t : Tg} {ts : List Tg} (h : AG X e t) (hr : AGs X es ts) (hs : (assignEach (e :: es) X.env).map (·.2) = assign e X.env :: (assignEach es X.env).map (·.2) := by rfl) : AGs X (e :: es) (t :: ts) := by
  obtain ⟨g, pg, qg⟩ := h
  obtain ⟨gs, pgs, qgs⟩ := hr
  refine ⟨_, pgs_cons pg pgs hs, fun G σ H F ρ vs ds Q S r hg => ?_⟩
  cases r with
  | nil => exact hg.elim
  | @cons v vs d ds rv rr =>
    refine ⟨v, vs, rfl, qg G σ H F ρ v d _ S rv ?_⟩
    unfold putTs at hg
    cases e : putT t d ρ with
    | ok a ρ1 =>
      rw [e] at hg
      refine fun σ' H' F' S' s' o' => qgs G σ' H' F' ρ1 vs ds _ S' (rr.mono s') ?_
      have hg : GoodT X.K G F σ (slTs (t :: ts)) (putTs ts ds ρ1) Q := hg
      cases e2 : putTs ts ds ρ1 with
      | ok b ρ2 =>
        rw [e2] at hg
        exact fun σ2 H2 F2 S2 s2 o2 => hg σ2 H2 F2 S2 (s'.tr s2) fun i hi => (o2 i fun h => hi (by simp [slTs, h])).trans (o' i fun h => hi (by simp [slTs, h]))
      | exc x ρ2 => rw [e2] at hg; exact hg.elim
      | stuck => rw [e2] at hg; exact hg.elim
    | exc x ρ1 => rw [e] at hg; exact hg.elim
    | stuck => rw [e] at hg; exact hg.elim
theorem AGs.len {es : List Expr} {ts : List Tg} (hn : es.length = lenT ts) : es.length = lenT ts := hn
theorem AG.tup {es : List Expr} {k n : Nat} {ts : List Tg} (hc : X.calm = true) (h : AGs X es ts) (hl : n = lenT ts := by rfl) (hn : (assignEach es X.env).length = n := by rfl) (hst : (assignEach es X.env).findIdx? (·.1) = none := by rfl) : AG X (.Tuple es k pos) (.tp ts) := by
  obtain ⟨g, pg, qg⟩ := h
  refine ⟨_, pg_tup hc pg hn hst, fun G σ H F ρ v d Q S r hg => ?_⟩
  cases r with
  | tup hx rx =>
    unfold putT at hg
    split at hg
    · rename_i hz
      exact ⟨_, _, rfl, SqTm S.sub hx, by rw [rx.length, hz, hl], qg G σ H F ρ _ _ Q S rx hg⟩
    · exact hg.elim
  | _ => exact hg.elim
end

/-! ### statements -/
def xNx : M Fl := fun ρ => .ok .nx ρ
def xSeq (a b : M Fl) : M Fl := fun ρ => (a ρ).bind fun f ρ => match f with
  | .nx => b ρ
  | f => .ok f ρ
def xRet (e : M D) : M Fl := fun ρ => (e ρ).bind fun d ρ => .ok (.rt d) ρ
def xIf (t : M Bool) (a b : M Fl) : M Fl := fun ρ => (t ρ).bind fun c ρ => if c = true then a ρ else b ρ
def xDrop (e : M D) : M Fl := fun ρ => (e ρ).bind fun _ ρ => .ok .nx ρ
def xPut (t : Tg) (e : M D) : M Fl := fun ρ => (e ρ).bind fun d ρ => (putT t d ρ).bind fun _ ρ => .ok .nx ρ
/-- i op= e -/
def xAug (g : D → D → FR D) (i : Nat) (e : M D) : M Fl := fun ρ => match ρ.getD i .un with
  | .val d => (e ρ).bind fun y ρ => ((g d y).lift ρ).bind fun z ρ => (putT (.sl i) z ρ).bind fun _ ρ => .ok .nx ρ
  | _ => .stuck
/-- the loop over what is left -/
def forM (t : Tg) (body : M Fl) : List D → M Fl
  | [], ρ => .ok .nx ρ
  | d :: ds, ρ => (putT t d ρ).bind fun _ ρ => (body ρ).bind fun f ρ => match f with
    | .nx => forM t body ds ρ
    | .ct => forM t body ds ρ
    | .bk => .ok .nx ρ
    | .rt r => .ok (.rt r) ρ
    | .rn r => .ok (.rn r) ρ
def xFor (it : M (List D)) (t : Tg) (body : M Fl) : M Fl := fun ρ => (it ρ).bind fun ds ρ => forM t body ds ρ
section
variable {X : Cx} {W : WX} {st : Stmt} {rest : List Stmt} {a b : M Fl} {e : Expr} {fe : M D} {pos : Pos}
theorem AB.nil : AB X W [] xNx := ⟨_, pss_nil, fun G σ H F ρ Dn S hg => hg σ H F S Sm.refl⟩
theorem seq_good {K : PySem.W.Frag} {G : Ent} {F : Hp} {r : R Fl} {Dn : Ends} {u : TS} (q : ∀ σ H F ρ, Stt K G σ H F ρ → GoodS K G W F (b ρ) Dn → u Dn σ H)
    (hg : GoodS K G W F (r.bind fun f ρ => match f with | .nx => b ρ | f => .ok f ρ) Dn) : GoodS K G W F r { Dn with nx := u Dn } := by
  cases r with
  | ok f ρ =>
    cases f with
    | nx => exact fun σ' H' F' S s => q σ' H' F' ρ S (GoodS.mono s hg)
    | rt d => exact hg
    | rn d => exact hg
    | bk => exact hg
    | ct => exact hg
  | exc x ρ => exact hg
  | stuck => exact hg
theorem AB.cons (h1 : AS X W st a) (h2 : AB X W rest b) : AB X W (st :: rest) (xSeq a b) := by
  obtain ⟨t, p, q⟩ := h1
  obtain ⟨u, p2, q2⟩ := h2
  exact ⟨_, pss_cons p p2, fun G σ H F ρ Dn S hg => q G σ H F ρ _ S (seq_good (fun σ H F ρ S hg => q2 G σ H F ρ Dn S hg) hg)⟩
theorem AB.one (h1 : AS X W st a) : AB X W [st] a := by
  obtain ⟨t, p, q⟩ := h1
  exact ⟨_, pss_one p, q⟩
theorem AS.ret (h : AE X W e fe) : AS X W (.Return (some e) pos) (xRet fe) := by
  obtain ⟨t, p, q⟩ := h
  exact ⟨_, ps_ret p, fun G σ H F ρ Dn S hg => q G σ H F ρ _ S (GoodS.bind hg fun d ρ1 H1 F1 S1 s1 g1 v r1 => g1 v σ H1 F1 S1 Sm.refl r1)⟩
theorem AS.retN : AS X W (.Return none pos) (xRet (mC .non)) := ⟨_, ps_retN, fun G σ H F ρ Dn S hg => hg .non σ H F S Sm.refl .non⟩
theorem AS.if_ {c : Expr} {x y : List Stmt} {t : M Bool} (hc : AT X W c t) (ha : AB X W x a) (hb : AB X W y b) : AS X W (.If c x y pos) (xIf t a b) := by
  obtain ⟨tc, pc, qc⟩ := hc
  obtain ⟨ta, pa, qa⟩ := ha
  obtain ⟨tb, pb, qb⟩ := hb
  refine ⟨_, ps_if pc pa pb, fun G σ H F ρ Dn S hg => qc G σ H F ρ _ S (GoodS.bind hg fun k ρ1 H1 F1 S1 s1 g1 => ?_)⟩
  show if k = true then ta Dn σ H1 else tb Dn σ H1
  cases k with
  | true => rw [if_pos rfl]; exact qa G σ H1 F1 ρ1 Dn S1 g1
  | false => rw [if_neg Bool.false_ne_true]; exact qb G σ H1 F1 ρ1 Dn S1 g1
theorem AS.expr (h : AE X W e fe) (hs : swapsWith e none pos.line X.env = pure false := by rfl) : AS X W (.Expr e pos) (xDrop fe) := by
  obtain ⟨t, p, q⟩ := h
  exact ⟨_, ps_expr p hs, fun G σ H F ρ Dn S hg => q G σ H F ρ _ S (GoodS.bind hg fun d ρ1 H1 F1 S1 s1 g1 v r1 => g1 σ H1 F1 S1 Sm.refl)⟩
theorem AS.pass : AS X W (.Pass pos) xNx := ⟨_, ps_pass, fun G σ H F ρ Dn S hg => hg σ H F S Sm.refl⟩
theorem AS.doc {x : Str} {j : Nat} {pos' : Pos} : AS X W (.Expr (.Constant (.str x) j pos) pos') xNx := ⟨_, ps_doc, fun G σ H F ρ Dn S hg => hg σ H F S Sm.refl⟩
theorem AS.brk : AS X W (.Break pos) (fun ρ => .ok .bk ρ) := ⟨_, ps_break, fun G σ H F ρ Dn S hg => hg σ H F S Sm.refl⟩
theorem AS.cont : AS X W (.Continue pos) (fun ρ => .ok .ct ρ) := ⟨_, ps_continue, fun G σ H F ρ Dn S hg => hg σ H F S Sm.refl⟩
theorem put_good {K : PySem.W.Frag} {G : Ent} {F : Hp} {σ : St} {sl : List Nat} {t : Tg} {d : D} {ρ : Ro} {Dn : Ends} (hg : GoodS K G W F ((putT t d ρ).bind fun _ ρ => .ok .nx ρ) Dn) (hx : ∀ x ρ', putT t d ρ ≠ .exc x ρ') : GoodT K G F σ sl (putT t d ρ) Dn.nx := by
  cases e : putT t d ρ with
  | ok u ρ1 => rw [e] at hg; exact fun σ' H' F' S s _ => hg σ' H' F' S s
  | exc x ρ1 => exact absurd e (hx x ρ1)
  | stuck => rw [e] at hg; exact hg
mutual
theorem putT_noexc : ∀ (t : Tg) (d : D) (ρ : Ro) (x : Ex) (ρ' : Ro), putT t d ρ ≠ .exc x ρ'
  | .sl i, d, ρ, x, ρ' => by
    unfold putT
    split <;> exact fun h => by cases h
  | .tp ts, .tup xs, ρ, x, ρ' => by
    unfold putT
    split
    · exact putTs_noexc ts xs ρ x ρ'
    · exact fun h => by cases h
  | .tp ts, .non, ρ, x, ρ' => by unfold putT; exact fun h => by cases h
  | .tp ts, .bl _, ρ, x, ρ' => by unfold putT; exact fun h => by cases h
  | .tp ts, .int _, ρ, x, ρ' => by unfold putT; exact fun h => by cases h
  | .tp ts, .str _, ρ, x, ρ' => by unfold putT; exact fun h => by cases h
  | .tp ts, .lst _, ρ, x, ρ' => by unfold putT; exact fun h => by cases h
  | .tp ts, .frz _, ρ, x, ρ' => by unfold putT; exact fun h => by cases h
  | .tp ts, .obj _ _ _, ρ, x, ρ' => by unfold putT; exact fun h => by cases h
  | .tp ts, .dct _ _, ρ, x, ρ' => by unfold putT; exact fun h => by cases h
  | .tp ts, .opq _, ρ, x, ρ' => by unfold putT; exact fun h => by cases h
  | .tp ts, .any, ρ, x, ρ' => by unfold putT; exact fun h => by cases h
theorem putTs_noexc : ∀ (ts : List Tg) (ds : List D) (ρ : Ro) (x : Ex) (ρ' : Ro), putTs ts ds ρ ≠ .exc x ρ'
  | [], [], ρ, x, ρ' => by unfold putTs; exact fun h => by cases h
  | [], _ :: _, ρ, x, ρ' => by unfold putTs; exact fun h => by cases h
  | _ :: _, [], ρ, x, ρ' => by unfold putTs; exact fun h => by cases h
  | t :: ts, d :: ds, ρ, x, ρ' => by
    unfold putTs
    cases e : putT t d ρ with
    | ok u ρ1 => exact putTs_noexc ts ds ρ1 x ρ'
    | exc y ρ1 => exact absurd e (putT_noexc t d ρ y ρ1)
    | stuck => exact fun h => by cases h
end
/-- name = e -/
theorem AS.set {i : Nat} {x : Str} {pos' : Pos} (hN : X.N.Nodup) (hi : X.N[i]? = some x) (hx : Loc X.env.scope x) (he : AE X W e fe) (hs : swapsWith e (some (.Name x pos')) pos.line X.env = pure false := by rfl) (hf : X.fn x = true ∨ X.env.scope.names.lookup x = some .local := by first | exact .inl rfl | exact .inr rfl) :
    AS X W (.Assign [.Name x pos'] e pos) (xPut (.sl i) fe) := by
  obtain ⟨t, p, q⟩ := he
  obtain ⟨g, pg, qg⟩ := AG.name (X := X) (pos := pos') hN hi hx hf
  refine ⟨_, ps_set hN hi hx p hs hf, fun G σ H F ρ Dn S hg => q G σ H F ρ _ S (GoodS.bind hg fun d ρ1 H1 F1 S1 s1 g1 v r1 => ?_)⟩
  have h := put_good (σ := σ) (sl := []) g1 (putT_noexc _ _ _)
  unfold putT at h
  split at h
  · exact h.elim
  · rename_i hh
    unfold putT at g1
    rw [if_neg hh] at g1
    exact g1 _ H1 F1 (S1.setVal (by simpa using hh) r1) Sm.refl
/-- a target = e -/
theorem AS.asg {tg : Expr} {t : Tg} (he : AE X W e fe) (hg : AG X tg t) (hs : swapsWithSole [tg] e pos.line X.env = pure false := by rfl) (hw : swappedStores [tg] e X.env = pure none := by rfl) (h1 : (assignEach [tg] X.env).map (·.2) = [assign tg X.env] := by rfl) : AS X W (.Assign [tg] e pos) (xPut t fe) := by
  obtain ⟨te, p, q⟩ := he
  obtain ⟨g, pg, qg⟩ := hg
  exact ⟨_, ps_asg p pg hs hw h1, fun G σ H F ρ Dn S hg => q G σ H F ρ _ S (GoodS.bind hg fun d ρ1 H1 F1 S1 s1 g1 v r1 => qg G σ H1 F1 ρ1 v d Dn.nx S1 r1 (put_good g1 (putT_noexc _ _ _)))⟩
/-- a loop over a list, .. -/
theorem AS.for_ {tg iter : Expr} {body : List Stmt} {fi : M (List D)} {t : Tg} {fb : M Fl} (hp : PassesOwn (model X.prog X.w) X.A X.env X.xe) (hc : X.calm = true) (hi : AI X W tg iter fi) (hg : AG X tg t) (hb : AB X W body fb)
    (hs : ∀ x, foldedSetIterable iter X.env x = pure x := by intro _; rfl) : AS X W (.For tg iter body [] pos) (xFor fi t fb) := by
  obtain ⟨wi, pi, qi⟩ := hi
  obtain ⟨g, pg, qg⟩ := hg
  obtain ⟨tb, pb, qb⟩ := hb
  refine ⟨_, ps_for hp hc pi pg pb hs, fun G σ H F ρ Dn S hgd => qi G σ H F ρ _ S (GoodS.bind hgd fun ds ρ1 H1 F1 S1 s1 g1 J hJ => ?_)⟩
  refine ⟨fun i m σ' H' => i + m = ds.length ∧ ∃ F' ρ', Stt X.K G σ' H' F' ρ' ∧ Sm F1 F' ∧ GoodS X.K G W F' (forM t fb (ds.drop i) ρ') Dn, ⟨ds.length, by omega, F1, ρ1, S1, Sm.refl, by rw [List.drop_zero]; exact g1⟩, ?_⟩
  rintro i m σ' H' ⟨hm, F', ρ', S', s', hgf⟩
  obtain ⟨stop, go⟩ := hJ i H' F' s' S'.sub
  by_cases hlt : i < ds.length
  · rw [List.drop_eq_getElem_cons hlt] at hgf
    obtain ⟨hgo, hy⟩ := go ds[i] (List.getElem?_eq_getElem hlt)
    refine .inr ⟨hgo, fun σ2 H2 => (i + 1) + (m - 1) = ds.length ∧ ∃ F2 ρ2, Stt X.K G σ2 H2 F2 ρ2 ∧ Sm F1 F2 ∧ GoodS X.K G W F2 (forM t fb (ds.drop (i + 1)) ρ2) Dn, fun σ2 H2 hn => ⟨m - 1, by omega, hn⟩, fun x H2 hyl => ?_⟩
    obtain ⟨F2, A2, r2⟩ := hy x H2 hyl
    have S2 := S'.aft A2
    refine qg G σ' H2 F2 ρ' x _ _ S2 r2 ?_
    unfold forM at hgf
    cases e : putT t ds[i] ρ' with
    | ok u ρ3 =>
      rw [e] at hgf
      refine fun σ3 H3 F3 S3 s3 _ => qb G σ3 H3 F3 ρ3 _ S3 ?_
      have hgf := GoodS.mono (A2.f.tr s3) hgf
      have again : ∀ {ρ4 : Ro}, GoodS X.K G W F3 (forM t fb (ds.drop (i + 1)) ρ4) Dn → ∀ σ4 H4 F4, Stt X.K G σ4 H4 F4 ρ4 → Sm F3 F4 → (i + 1) + (m - 1) = ds.length ∧ ∃ F2 ρ2, Stt X.K G σ4 H4 F2 ρ2 ∧ Sm F1 F2 ∧ GoodS X.K G W F2 (forM t fb (ds.drop (i + 1)) ρ2) Dn :=
        fun hq σ4 H4 F4 S4 s4 => ⟨by omega, F4, _, S4, s'.tr (A2.f.tr (s3.tr s4)), GoodS.mono s4 hq⟩
      have hgf : GoodS X.K G W F3 ((fb ρ3).bind fun f ρ => match f with | .nx => forM t fb (ds.drop (i + 1)) ρ | .ct => forM t fb (ds.drop (i + 1)) ρ | .bk => .ok .nx ρ | .rt r => .ok (.rt r) ρ | .rn r => .ok (.rn r) ρ) Dn := hgf
      cases e4 : fb ρ3 with
      | ok f ρ4 =>
        rw [e4] at hgf
        cases f with
        | nx => exact again hgf
        | ct => exact again hgf
        | bk => exact hgf
        | rt d => exact hgf
        | rn d => exact hgf
      | exc x ρ4 => rw [e4] at hgf; exact hgf
      | stuck => rw [e4] at hgf; exact hgf
    | exc y ρ3 => exact absurd e (putT_noexc _ _ _ _ _)
    | stuck => rw [e] at hgf; exact hgf.elim
  · have e0 : ds.drop i = [] := List.drop_eq_nil_of_le (by omega)
    rw [e0] at hgf
    exact .inl ⟨stop (by omega), hgf σ' H' F' S' Sm.refl⟩
end
end Mr
namespace Mr
open PySem PySem.Spec PyProof.Rows L2
variable [Lam] [Pins]

/-! ### calls of defs -/
section
variable {X : Cx} {W : WX} {k n : Nat} {f : Addr} {fd : FuncData} {ps : List Str} {sp : Sp} {dvs : List V} {dV : List Value} {dd : List D} {x y : Str} {p py pos : Pos} {e : Expr} {es : List Expr} {fs : M (List D)} {m : List D → FR D} {mi : SV → List D → IR}
theorem run_fnW {pins : List (Addr × Obj)} {σ : St} {H : Hp} {s : Shared} {Q : VK} {us : List Value} {vs : List V} (Fn : FnG X.prog X.w X.K X.mg X.base k f fd ps sp) (hr : RoomG k X.A) (hb : Binds X.K fd ps dV) (hd : Vals dvs dV) (tk : Takes X W)
    (I : Inv X pins σ H s) (r : Vals vs us) (h : sp (vs ++ dvs) H Q (WE W σ)) : wpAny (model X.prog X.w) X.A (call (.ref f) us) (EP X pins σ Q) X.xe s := by
  have r2 := r.append hd
  have hl : (us ++ dV).length = ps.length := r2.length.symm.trans (Fn.len _ _ _ _ h)
  refine wpAny_call (codeAny_mono (Fn.run X.A X.stack s H ⟨us, []⟩ (us ++ dV) (vs ++ dvs) Q (WE W σ) hr I.env0 (hb s us I.kIn hl) r2 h) fun r s' hq => ?_)
  cases r with
  | error e => exact passAt tk σ pins H s e s' I hq
  | ok fl =>
    cases fl with
    | ret u => exact I.after hq
    | _ => exact hq.elim
def tCallW (W : WX) (sp : Sp) (dvs : List V) (t : TA) : TE := fun σ H Q => t σ H fun vs H1 => sp (vs ++ dvs) H1 Q (WE W σ)
theorem pe_callW {ta : TA} (Fn : FnG X.prog X.w X.K X.mg X.base k f fd ps sp) (hr : RoomG k X.A) (hg : Gl X x) (hm : X.mg x = some (.ref f)) (hk : PySem.W.keepIn X.K (.ref f) = true) (hb : Binds X.K fd ps dV) (hd : Vals dvs dV) (tk : Takes X W)
    (ha : PA X (e :: es) ta) (hdb : (x == ("__debug__" : Str)) = false := by decide) (he : starEach (e :: es) X.env = (false, eval e X.env) :: starEach es X.env := by rfl) (hpl : (backTo pos (starEach es X.env)).any (·.1) = false := by rfl) :
    PE X (.Call (.Name x p) (e :: es) [] pos) (tCallW W sp dvs ta) := by
  refine ⟨fun pins s σ H Q I h => ?_⟩
  refine wpAny_Call_Name_kw (ld_glob I hg hm (PySem.W.callWith_K (h₀ := X.base) I.ok.mod.kin hk ?_ he hpl) hdb)
  refine thn (ha.run pos pins s σ H _ I h) fun us s1 ⟨vs, H1, I1, r, q⟩ => ?_
  exact ⟨I1.kIn, run_fnW Fn hr hb hd tk I1 r q⟩
theorem aftGood {G : Ent} {σ : St} {H F : Hp} {ρ : Ro} {r : FR D} {Q : VK} (S : Stt X.K G σ H F ρ) (g : Good X.K G W σ F (r.lift ρ) (PD X.K Q)) : GoodF X.K H F r Q (WE W σ) := by
  cases r with
  | ok d => exact fun v H' F' A rv => g H' F' (S.aft A) A.f v rv
  | exc x => exact fun d H' F' A rv => g d H' F' (S.aft A) A.f rv
  | stuck => exact g
theorem Reps.mono0 {K : PySem.W.Frag} {F : Hp} {vs : List V} {ds : List D} (h : ∀ K H, Reps K H vs ds) : Reps K F vs ds := h K F
def mCall (m : List D → FR D) (n : Nat) (dd : List D) (fs : M (List D)) : M D := fun ρ => (fs ρ).bind fun ds ρ => (if ds.length + dd.length = n then m (ds ++ dd) else .stuck).lift ρ
/-- f(..) -/
theorem AE.call (Fn : FnG X.prog X.w X.K X.mg X.base k f fd ps (PSp X.K n m)) (hr : RoomG k X.A) (hg : Gl X x) (hm : X.mg x = some (.ref f)) (hk : PySem.W.keepIn X.K (.ref f) = true) (hb : Binds X.K fd ps dV) (hd : Vals dvs dV) (hdd : ∀ K H, Reps K H dvs dd) (tk : Takes X W)
    (ha : AA X W (e :: es) fs) (hdb : (x == ("__debug__" : Str)) = false := by decide) (he : starEach (e :: es) X.env = (false, eval e X.env) :: starEach es X.env := by rfl) (hpl : (backTo pos (starEach es X.env)).any (·.1) = false := by rfl) :
    AE X W (.Call (.Name x p) (e :: es) [] pos) (mCall m n dd fs) := by
  obtain ⟨t, pa, qa⟩ := ha
  refine ⟨_, pe_callW Fn hr hg hm hk hb hd tk pa hdb he hpl, fun G σ H F ρ Q S hgd => qa G σ H F ρ _ S (hgd.bind fun ds ρ1 H1 F1 S1 s1 g1 vs r1 => ?_)⟩
  have g1 : Good X.K G W σ F1 ((if ds.length + dd.length = n then m (ds ++ dd) else FR.stuck).lift ρ1) (PD X.K Q) := g1
  split at g1
  · rename_i hz
    exact ⟨by rw [List.length_append, r1.length, (hdd X.K F1).length]; exact hz, F1, ds ++ dd, S1.pre, r1.append (hdd _ _), aftGood S1 g1⟩
  · exact g1.elim
/-- f(x, ..): x may be changed -/
def SV.flag (b : Bool) : SV → SV
  | .own _ xs => .own b xs
  | .ins _ C ns ds => .ins b C ns ds
  | .dic _ ks ds => .dic b ks ds
  | s => s
def mIo (mi : SV → List D → IR) (n j : Nat) (fs : M (List D)) : M D := fun ρ => if (ρ.getD j .un).isOwn = true then (fs ρ).bind fun ds ρ =>
    if ds.length = n ∧ (ρ.getD j .un).isOwn = true then match mi ((ρ.getD j .un).flag true) ds with
      | .ok d sv => .ok d (ρ.set j (sv.flag (ρ.getD j .un).isIo))
      | .exc x sv => .exc x (ρ.set j (sv.flag (ρ.getD j .un).isIo))
      | .stuck => .stuck
    else .stuck
  else .stuck
theorem SlotOk.flag {K : PySem.W.Frag} {H F : Hp} {s : Option (Option V)} {sv : SV} (b : Bool) (q : SlotOk K H F s sv) : SlotOk K H F s (sv.flag b) := by
  cases sv <;> exact q
theorem flag_io {sv : SV} {b : Bool} (h : sv.isOwn = true) : (sv.flag b).isHd = b ∧ (sv.flag b).isOwn = true := by
  cases sv <;> first | exact ⟨rfl, rfl⟩ | cases h
theorem own_io_hd {sv : SV} (h : sv.isOwn = true) : sv.isIo = sv.isHd := by
  cases sv <;> first | rfl | cases h
theorem AE.callIo {j : Nat} (Fn : FnG X.prog X.w X.K X.mg X.base k f fd ps (ISp X.K n mi)) (hr : RoomG k X.A) (hg : Gl X x) (hm : X.mg x = some (.ref f)) (hk : PySem.W.keepIn X.K (.ref f) = true) (hb : Binds X.K fd ps []) (tk : Takes X W)
    (h0 : PE X (.Name y py) (tVar j)) (ha : AA X W es fs) (hdb : (x == ("__debug__" : Str)) = false := by decide) (he : starEach (.Name y py :: es) X.env = (false, eval (.Name y py) X.env) :: starEach es X.env := by rfl) (hpl : (backTo pos (starEach es X.env)).any (·.1) = false := by rfl) :
    AE X W (.Call (.Name x p) (.Name y py :: es) [] pos) (mIo mi n j fs) := by
  obtain ⟨t, pa, qa⟩ := ha
  refine ⟨_, pe_callW (W := W) Fn hr hg hm hk hb .nil tk (pa_cons h0 pa he) hdb he hpl, fun G σ H F ρ Q S hgd => ?_⟩
  unfold mIo at hgd
  split at hgd
  · rename_i ho
    obtain ⟨a, o, e1, _, _, _⟩ := (S.at_ j).there ho
    refine ⟨_, e1, qa G σ H F ρ _ S (hgd.bind fun ds ρ1 H1 F1 S1 s1 g1 vs r1 => ?_)⟩
    split at g1
    · rename_i hz
      have q := S1.at_ j
      rw [e1] at q
      refine ⟨by rw [List.append_nil, List.length_cons, r1.length, hz.1], F1, a, vs, _, ds, by rw [List.append_nil], S1.pre, q.flag true, (flag_io hz.2).1, r1, ?_⟩
      have back : ∀ {sv : SV} {H' F' : Hp}, AftIo X.K a sv H1 F1 H' F' → Stt X.K G σ H' F' (ρ1.set j (sv.flag (ρ1.getD j .un).isIo)) := fun {sv H' F'} A =>
        S1.change hz.2 e1 A.h A.sub A.f A.new (A.ft S1.ft) (A.at_.flag _) (flag_io (SV.own_of_io A.own)).2 ((flag_io (SV.own_of_io A.own)).1.trans (own_io_hd hz.2))
      cases em : mi ((ρ1.getD j .un).flag true) ds with
      | ok d sv =>
        rw [em] at g1
        exact fun v H' F' A rv => g1 H' F' (back A) A.f v rv
      | exc xx sv =>
        rw [em] at g1
        exact fun d H' F' A rv => g1 d H' F' (back A) A.f rv
      | stuck => rw [em] at g1; exact g1
    · exact g1.elim
  · exact hgd.elim
end

/-! ### lists of one's own -/
/-- e gives a new list -/
def AN (X : Cx) (W : WX) (e : Expr) (f : M (List D)) : Prop := ∃ t, PE X e t ∧ ∀ G σ H F ρ Q, Stt X.K G σ H F ρ →
  Good X.K G W σ F (f ρ) (fun ds ρ' H' F' => ∀ a vs H2, Stt X.K ⟨G.H0, G.F0, G.io, (a, .lst vs) :: G.xt⟩ σ H2 F' ρ' → Reps X.K F' vs ds → Q (.ref a) H2) → t σ H Q
def mOfN (f : M (List D)) : M D := fun ρ => (f ρ).bind fun ds ρ => .ok (.lst ds) ρ
def mLstN (fs : M (List D)) : M (List D) := fun ρ => (fs ρ).bind fun ds ρ => if ds.length ≤ sizeLine then .ok ds ρ else .stuck
/-- x = a new list, changed later -/
def xOwn (i : Nat) (f : M (List D)) : M Fl := fun ρ => (f ρ).bind fun ds ρ => if (ρ.getD i .un).isIo = true then .stuck else .ok .nx (ρ.set i (.own false ds))
/-- x[e] -/
def mIxN (j : Nat) (fe : M D) : M D := fun ρ => match ρ.getD j .un with
  | .own _ _ => (fe ρ).bind fun i ρ => match ρ.getD j .un, i with
    | .own _ xs, .int k => match atI xs k with
      | some d => .ok d ρ
      | none => .stuck
    | _, _ => .stuck
  | .val d => (fe ρ).bind fun i ρ => (ixD d i).lift ρ
  | _ => .stuck
/-- x[e] = v -/
def xSetIx (j : Nat) (fv fe : M D) : M Fl := fun ρ => (fv ρ).bind fun v ρ => match ρ.getD j .un with
  | .own _ _ => (fe ρ).bind fun i ρ => match ρ.getD j .un, i with
    | .own p xs, .int k => match ixN xs.length k with
      | some n => .ok .nx (ρ.set j (.own p (xs.set n v)))
      | none => .stuck
    | _, _ => .stuck
  | _ => .stuck
/-- x.append(e) -/
def mApp (j : Nat) (fe : M D) : M D := fun ρ => match ρ.getD j .un with
  | .own _ _ => (fe ρ).bind fun v ρ => match ρ.getD j .un with
    | .own p xs => if xs.length < sizeLine then .ok .non (ρ.set j (.own p (xs ++ [v]))) else .stuck
    | _ => .stuck
  | _ => .stuck
/-- len(x) -/
def mLenN (j : Nat) : M D := fun ρ => match ρ.getD j .un with
  | .own _ xs => .ok (.int xs.length) ρ
  | .val d => (lenD [d]).lift ρ
  | _ => .stuck
section
variable {X : Cx} {W : WX} {e b : Expr} {es : List Expr} {fs : M (List D)} {fe fv : M D} {pos py : Pos} {y x : Str}
theorem AE.ofN (h : AN X W e fs) : AE X W e (mOfN fs) := by
  obtain ⟨t, p, q⟩ := h
  refine ⟨_, p, fun G σ H F ρ Q S hg => q G σ H F ρ Q S (hg.bind fun ds ρ1 H1 F1 S1 s1 g1 a vs H2 S2 r => ?_)⟩
  obtain ⟨S3, s3⟩ := S2.xtFreeze
  exact g1 H2 _ S3 s3 _ (.lst upd_same (r.mono s3))
theorem AN.lst (h : AA X W es fs) : AN X W (.List es pos) (mLstN fs) := by
  obtain ⟨t, p, q⟩ := h
  refine ⟨_, pe_lst p, fun G σ H F ρ Q S hg => q G σ H F ρ _ S (hg.bind fun ds ρ1 H1 F1 S1 s1 g1 vs r1 => ?_)⟩
  by_cases hz : ds.length ≤ sizeLine
  · rw [if_pos hz] at g1
    exact ⟨by rw [r1.length]; exact hz, fun a ha => g1 H1 F1 S1 Sm.refl a vs _ (S1.xtNew ha) r1⟩
  · rw [if_neg hz] at g1; exact g1.elim
def mCallN (m : List D → FR (List D)) (n : Nat) (fs : M (List D)) : M (List D) := fun ρ => (fs ρ).bind fun ds ρ => (if ds.length = n then m ds else .stuck).lift ρ
theorem AN.call {k n : Nat} {f : Addr} {fd : FuncData} {ps : List Str} {m : List D → FR (List D)} {p : Pos} (Fn : FnG X.prog X.w X.K X.mg X.base k f fd ps (NSp X.K n m)) (hr : RoomG k X.A) (hg : Gl X x) (hm : X.mg x = some (.ref f)) (hk : PySem.W.keepIn X.K (.ref f) = true) (hb : Binds X.K fd ps []) (tk : Takes X W)
    (ha : AA X W (e :: es) fs) (hdb : (x == ("__debug__" : Str)) = false := by decide) (he : starEach (e :: es) X.env = (false, eval e X.env) :: starEach es X.env := by rfl) (hpl : (backTo pos (starEach es X.env)).any (·.1) = false := by rfl) :
    AN X W (.Call (.Name x p) (e :: es) [] pos) (mCallN m n fs) := by
  obtain ⟨t, pa, qa⟩ := ha
  refine ⟨_, pe_callW Fn hr hg hm hk hb .nil tk pa hdb he hpl, fun G σ H F ρ Q S hgd => qa G σ H F ρ _ S (hgd.bind fun ds ρ1 H1 F1 S1 s1 g1 vs r1 => ?_)⟩
  split at g1
  · rename_i hz
    refine ⟨by rw [List.append_nil, r1.length]; exact hz, F1, ds, S1.pre, by rw [List.append_nil]; exact r1, ?_⟩
    cases em : m ds with
    | ok xs =>
      rw [em] at g1
      exact fun a ws H' F' A h rw_ => g1 H' F' (S1.aft A) A.f a ws H' (S1.xtAdd A.h A.sub A.f A.new (A.ft S1.ft) h.1 h.2.1 h.2.2) rw_
    | exc xx =>
      rw [em] at g1
      exact fun d H' F' A rv => g1 d H' F' (S1.aft A) A.f rv
    | stuck => rw [em] at g1; exact g1
  · exact g1.elim
/-- return a new list -/
def xRetN (f : M (List D)) : M Fl := fun ρ => (f ρ).bind fun ds ρ => .ok (.rn ds) ρ
theorem AS.retNew (h : AN X W e fs) : AS X W (.Return (some e) pos) (xRetN fs) := by
  obtain ⟨t, p, q⟩ := h
  exact ⟨_, ps_ret p, fun G σ H F ρ Dn S hg => q G σ H F ρ _ S (GoodS.bind hg fun ds ρ1 H1 F1 S1 s1 g1 a vs H2 S2 r => g1 a vs σ H2 F1 S2 Sm.refl r)⟩
theorem AS.own {i : Nat} {pos' : Pos} (hN : X.N.Nodup) (hi : X.N[i]? = some x) (hx : Loc X.env.scope x) (he : AN X W e fs) (hs : swapsWith e (some (.Name x pos')) pos.line X.env = pure false := by rfl) (hf : X.fn x = true ∨ X.env.scope.names.lookup x = some .local := by first | exact .inl rfl | exact .inr rfl) :
    AS X W (.Assign [.Name x pos'] e pos) (xOwn i fs) := by
  obtain ⟨t, p, q⟩ := he
  refine ⟨_, ps_set hN hi hx p hs hf, fun G σ H F ρ Dn S hg => q G σ H F ρ _ S (GoodS.bind hg fun ds ρ1 H1 F1 S1 s1 g1 a vs H2 S2 r => ?_)⟩
  split at g1
  · exact g1.elim
  · rename_i hh
    obtain ⟨e1, e2, _, _⟩ := S2.xt (a, .lst vs) (List.mem_cons_self ..)
    exact g1 _ H2 F1 (S2.xtSlot (by simpa using hh) ⟨a, vs, rfl, e1, e2, r⟩ rfl) Sm.refl
theorem own_at {K : PySem.W.Frag} {G : Ent} {σ : St} {H F : Hp} {ρ : Ro} {j : Nat} {p : Bool} {xs : List D} (S : Stt K G σ H F ρ) (h : ρ.getD j .un = .own p xs) : ∃ a vs, σ[j]? = some (some (V.ref a)) ∧ H a = some (.lst vs) ∧ F a = none ∧ Reps K F vs xs := by
  have q := S.at_ j
  rw [h] at q
  exact q
theorem AE.ixN {j : Nat} (h0 : PE X (.Name y py) (tVar j)) (hb : AE X W b fe) (hs : PlainIx b := by exact fun _ _ => rfl) : AE X W (.Subscript (.Name y py) b pos) (mIxN j fe) := by
  obtain ⟨tb, pb, qb⟩ := hb
  refine ⟨_, pe_ix (IxR.or ix_list (IxR.or ix_tup ix_str)) h0 pb hs, fun G σ H F ρ Q S hg => ?_⟩
  unfold mIxN at hg
  cases e : ρ.getD j .un with
  | own p xs =>
    rw [e] at hg
    obtain ⟨a, vs, e1, e2, e3, r⟩ := own_at S e
    refine ⟨_, e1, qb G σ H F ρ _ S (hg.bind fun di ρ1 H1 F1 S1 s1 g1 u ru => ?_)⟩
    split at g1
    · rename_i p1 ys k e4
      obtain ⟨a', ws, f1, f2, f3, r'⟩ := own_at S1 e4
      rw [e1] at f1; cases f1
      cases ru
      split at g1
      · rename_i d hd
        obtain ⟨w, ew, rw_⟩ := reps_at r' hd
        exact .inl ⟨a, ws, k, w, rfl, rfl, .of f2, ew, g1 H1 F1 S1 Sm.refl _ rw_⟩
      · exact g1.elim
    · exact g1.elim
  | val d =>
    rw [e] at hg
    have q := S.at_ j
    rw [e] at q
    obtain ⟨v, e1, r1⟩ := q
    refine ⟨v, e1, qb G σ H F ρ _ S (hg.bind fun dy ρ2 H2 F2 S2 s2 g2 u r2 => ?_)⟩
    have r1 := r1.mono s2
    cases r2 with
    | int i =>
      cases r1 with
      | str z =>
        simp only [ixD] at g2
        split at g2
        · rename_i hz
          split at g2
          · rename_i c hc
            exact .inr (.inr ⟨z, i, c, rfl, rfl, hz, hc, g2 H2 F2 S2 Sm.refl _ (.str _)⟩)
          · exact g2.elim
        · exact g2.elim
      | tup hx rx =>
        simp only [ixD] at g2
        split at g2
        · rename_i d hd
          obtain ⟨w, e1, rw_⟩ := reps_at rx hd
          exact .inr (.inl ⟨_, _, i, w, rfl, rfl, SqTm S2.sub hx, e1, g2 H2 F2 S2 Sm.refl _ rw_⟩)
        · exact g2.elim
      | lst hx rx =>
        simp only [ixD] at g2
        split at g2
        · rename_i d hd
          obtain ⟨w, e1, rw_⟩ := reps_at rx hd
          exact .inl ⟨_, _, i, w, rfl, rfl, .of (S2.sub _ _ hx), e1, g2 H2 F2 S2 Sm.refl _ rw_⟩
        · exact g2.elim
      | frz hx rx =>
        simp only [ixD] at g2
        split at g2
        · rename_i d hd
          obtain ⟨w, e1, rw_⟩ := reps_at rx hd
          exact .inl ⟨_, _, i, w, rfl, rfl, SqLm S2.sub hx, e1, g2 H2 F2 S2 Sm.refl _ rw_⟩
        · exact g2.elim
      | _ => exact g2.elim
    | _ => exact (by cases d <;> exact g2.elim)
  | un => rw [e] at hg; exact hg.elim
  | ins p C ns ds => rw [e] at hg; exact hg.elim
  | dic p ks ds => rw [e] at hg; exact hg.elim
  | pin => rw [e] at hg; exact hg.elim
theorem AE.lenN {j : Nat} {px : Pos} (h0 : PE X (.Name y py) (tVar j)) (hg : Gl X "len") (hm : X.mg "len" = none) (he : starEach [.Name y py] X.env = (false, eval (.Name y py) X.env) :: starEach [] X.env := by rfl) (hpl : (backTo pos (starEach [] X.env)).any (·.1) = false := by rfl) : AE X W (.Call (.Name "len" px) [.Name y py] [] pos) (mLenN j) := by
  refine ⟨_, pe_callB call_len hg hm PySem.boot_len (pa_cons h0 pa_nil he) (by decide) (by decide) he hpl, fun G σ H F ρ Q S hgd => ?_⟩
  unfold mLenN at hgd
  cases e : ρ.getD j .un with
  | own p xs =>
    rw [e] at hgd
    obtain ⟨a, vs, e1, e2, e3, r⟩ := own_at S e
    exact ⟨_, e1, _, xs.length, rfl, .inl ⟨vs, .of e2, r.length.symm⟩, hgd H F S Sm.refl _ (.int _)⟩
  | val d =>
    rw [e] at hgd
    have q := S.at_ j
    rw [e] at q
    obtain ⟨v, e1, r1⟩ := q
    refine ⟨v, e1, ?_⟩
    cases r1 with
    | str z =>
      simp only [lenD] at hgd
      split at hgd
      · rename_i hz; exact ⟨_, z.length, rfl, ⟨hz, rfl⟩, hgd H F S Sm.refl _ (.int _)⟩
      · exact hgd.elim
    | tup hx rx => exact ⟨_, _, rfl, .inr ⟨_, SqTm S.sub hx, rx.length.symm⟩, hgd H F S Sm.refl _ (.int _)⟩
    | lst hx rx => exact ⟨_, _, rfl, .inl ⟨_, .of (S.sub _ _ hx), rx.length.symm⟩, hgd H F S Sm.refl _ (.int _)⟩
    | frz hx rx => exact ⟨_, _, rfl, .inl ⟨_, SqLm S.sub hx, rx.length.symm⟩, hgd H F S Sm.refl _ (.int _)⟩
    | _ => exact hgd.elim
  | un => rw [e] at hgd; exact hgd.elim
  | ins p C ns ds => rw [e] at hgd; exact hgd.elim
  | dic p ks ds => rw [e] at hgd; exact hgd.elim
  | pin => rw [e] at hgd; exact hgd.elim
theorem AS.setIx {j : Nat} {p1 : Pos} (hv : AE X W e fv) (h0 : PE X (.Name y py) (tVar j)) (hb : AE X W b fe)
    (hs : swapsWithSole [.Subscript (.Name y py) b p1] e pos.line X.env = pure false := by rfl) (hw : swappedStores [.Subscript (.Name y py) b p1] e X.env = pure none := by rfl) (h1 : (assignEach [.Subscript (.Name y py) b p1] X.env).map (·.2) = [assign (.Subscript (.Name y py) b p1) X.env] := by rfl)
    (ha : ∀ v, assign (.Subscript (.Name y py) b p1) X.env v = (do
      let ov ← holding [v] (eval (.Name y py) X.env)
      let iv ← holding [v, ov] (eval b X.env)
      standAt p1
      holding [v, ov, iv] (setItem ov iv v)
      release [v, ov, iv] []) := by intro _; rfl) : AS X W (.Assign [.Subscript (.Name y py) b p1] e pos) (xSetIx j fv fe) := by
  obtain ⟨tv, pv, qv⟩ := hv
  obtain ⟨tb, pb, qb⟩ := hb
  refine ⟨_, ps_asg pv (pg_sub h0 pb set_list ha) hs hw h1, fun G σ H F ρ Dn S hg => qv G σ H F ρ _ S (GoodS.bind hg fun dv ρ1 H1 F1 S1 s1 g1 v rv => ?_)⟩
  split at g1
  · rename_i p xs e1
    obtain ⟨a, vs, e2, e3, e4, r⟩ := own_at S1 e1
    refine ⟨_, e2, qb G σ H1 F1 ρ1 _ S1 (GoodS.bind g1 fun di ρ2 H2 F2 S2 s2 g2 u ru => ?_)⟩
    split at g2
    · rename_i p2 ys k e5
      obtain ⟨a', ws, f1, f2, f3, r'⟩ := own_at S2 e5
      rw [e2] at f1; cases f1
      cases ru
      split at g2
      · rename_i m hm
        refine ⟨a, ws, k, m, rfl, rfl, f2, by rw [r'.length]; exact hm, ?_⟩
        refine g2 σ _ F2 (S2.change (by rw [e5]; rfl) e2 (S2.own_upd (by rw [e5]; rfl) e2) (fun b o h => ?_) Sm.refl (fun _ _ h => .inl h) S2.ft ⟨a, ws.set m v, rfl, upd_same, f3, r'.set (rv.mono s2) m⟩ rfl (by rw [e5]; rfl)) Sm.refl
        by_cases eb : b = a
        · subst eb; rw [f3] at h; cases h
        · rw [upd_ne eb]; exact S2.sub b o h
      · exact g2.elim
    · exact g2.elim
  · exact g1.elim
theorem AE.app {j : Nat} {ap cp : Pos} (h0 : PE X (.Name y py) (tVar j)) (ha : AE X W e fe) (hst : starEach [e] X.env = (false, eval e X.env) :: starEach [] X.env := by rfl)
    (hbase : attributeBase (.Name y py) "append" X.env (eval (.Name y py) X.env) = eval (.Name y py) X.env := by rfl)
    (hfew : ((backTo cp (starEach [e] X.env)).all (fun x => !x.1) && (backToKw cp (keywordEach [] X.env)).all (fun x => x.1.isSome)
      && decide ([e].length + ([] : List Keyword).length + (if ([] : List Keyword).isEmpty then 0 else 1) < 30)) = true := by rfl)
    (hline : (ap.endLine == cp.line) = true := by rfl) (hplain : (backTo cp (starEach [] X.env)).any (·.1) = false := by rfl) :
    AE X W (.Call (.Attribute (.Name y py) "append" ap) [e] [] cp) (mApp j fe) := by
  obtain ⟨t, p, q⟩ := ha
  refine ⟨_, pe_bm PySem.F.plainAttrs_list PySem.F.slot_list_append PySem.F.type_list_append mt_append h0 (pa_cons p pa_nil hst) hbase hfew hline hst hplain, fun G σ H F ρ Q S hg => ?_⟩
  unfold mApp at hg
  split at hg
  · rename_i p0 xs0 e0
    obtain ⟨a, vs, e1, e2, e3, r⟩ := own_at S e0
    refine ⟨_, e1, .inl ⟨rfl, vs, .of e2⟩, q G σ H F ρ _ S (hg.bind fun v ρ1 H1 F1 S1 s1 g1 w rw_ => ?_)⟩
    split at g1
    · rename_i p1 xs e4
      obtain ⟨a', ws, f1, f2, f3, r'⟩ := own_at S1 e4
      rw [e1] at f1; cases f1
      split at g1
      · rename_i hz
        refine ⟨a, ws, w, rfl, rfl, f2, by rw [r'.length]; exact hz, ?_⟩
        refine g1 _ F1 (S1.change (by rw [e4]; rfl) e1 (S1.own_upd (by rw [e4]; rfl) e1) (fun b o h => ?_) Sm.refl (fun _ _ h => .inl h) S1.ft ⟨a, _, rfl, upd_same, f3, r'.append (.cons rw_ .nil)⟩ rfl (by rw [e4]; rfl)) Sm.refl _ .non
        by_cases eb : b = a
        · subst eb; rw [f3] at h; cases h
        · rw [upd_ne eb]; exact S1.sub b o h
      · exact g1.elim
    · exact g1.elim
  · exact hg.elim
end

/-! ### while -/
def whN (t : M Bool) (b : M Fl) : Nat → M Fl
  | 0, _ => .stuck
  | n + 1, ρ => (t ρ).bind fun c ρ => if c = true then (b ρ).bind fun f ρ => match f with
      | .nx => whN t b n ρ
      | .ct => whN t b n ρ
      | .bk => .ok .nx ρ
      | .rt r => .ok (.rt r) ρ
      | .rn r => .ok (.rn r) ρ
    else .ok .nx ρ
def Ends_ (r : R Fl) : Prop := r ≠ .stuck
open Classical in
noncomputable def xWhile (t : M Bool) (b : M Fl) : M Fl := fun ρ => if h : ∃ n, whN t b n ρ ≠ .stuck then whN t b (Classical.choose h) ρ else .stuck
theorem whN_more (t : M Bool) (b : M Fl) : ∀ (n : Nat) (ρ : Ro), whN t b n ρ ≠ .stuck → whN t b (n + 1) ρ = whN t b n ρ
  | 0, ρ, h => absurd rfl h
  | n + 1, ρ, h => by
    unfold whN at h ⊢
    cases e : t ρ with
    | ok c ρ1 =>
      rw [e] at h
      simp only [R.bind] at h ⊢
      cases c with
      | false => rfl
      | true =>
        simp only [if_true] at h ⊢
        cases e2 : b ρ1 with
        | ok f ρ2 =>
          rw [e2] at h
          cases f with
          | nx => exact whN_more t b n ρ2 h
          | ct => exact whN_more t b n ρ2 h
          | bk => rfl
          | rt d => rfl
          | rn d => rfl
        | exc x ρ2 => rfl
        | stuck => rw [e2] at h; first | done | exact absurd rfl h
    | exc x ρ1 => rfl
    | stuck => rw [e] at h; exact absurd rfl h
theorem whN_add (t : M Bool) (b : M Fl) (n : Nat) (ρ : Ro) (h : whN t b n ρ ≠ .stuck) : ∀ k, whN t b (n + k) ρ = whN t b n ρ
  | 0 => rfl
  | k + 1 => by
    have ih := whN_add t b n ρ h k
    rw [← Nat.add_assoc, whN_more t b (n + k) ρ (by rw [ih]; exact h), ih]
theorem xWhile_of {t : M Bool} {b : M Fl} {n : Nat} {ρ : Ro} {r : R Fl} (h : whN t b n ρ = r) (hr : r ≠ .stuck) : xWhile t b ρ = r := by
  have ex : ∃ n, whN t b n ρ ≠ .stuck := ⟨n, by rw [h]; exact hr⟩
  unfold xWhile
  rw [dif_pos ex]
  have hc := Classical.choose_spec ex
  have a := whN_add t b _ ρ hc n
  have c := whN_add t b n ρ (by rw [h]; exact hr) (Classical.choose ex)
  rw [← a, Nat.add_comm, c, h]
theorem xWhile_fuel {t : M Bool} {b : M Fl} {ρ : Ro} : ∃ n, xWhile t b ρ = whN t b n ρ := by
  unfold xWhile
  by_cases h : ∃ n, whN t b n ρ ≠ .stuck
  · rw [dif_pos h]; exact ⟨_, rfl⟩
  · rw [dif_neg h]; exact ⟨0, rfl⟩
/-- one turn of a while -/
theorem xWhile_eq (t : M Bool) (b : M Fl) (ρ : Ro) : xWhile t b ρ = (t ρ).bind fun c ρ => if c = true then (b ρ).bind fun f ρ => match f with
      | .nx => xWhile t b ρ
      | .ct => xWhile t b ρ
      | .bk => .ok .nx ρ
      | .rt r => .ok (.rt r) ρ
      | .rn r => .ok (.rn r) ρ
    else .ok .nx ρ := by
  cases e : t ρ with
  | stuck =>
    obtain ⟨n, hn⟩ := xWhile_fuel (t := t) (b := b) (ρ := ρ)
    rw [hn]
    cases n with
    | zero => rfl
    | succ n => unfold whN; rw [e]; rfl
  | exc x ρ1 => exact xWhile_of (n := 1) (by unfold whN; rw [e]; rfl) (fun h => by cases h)
  | ok c ρ1 =>
    cases c with
    | false => exact xWhile_of (n := 1) (by unfold whN; rw [e]; rfl) (fun h => by cases h)
    | true =>
      simp only [R.bind, if_true]
      cases e2 : b ρ1 with
      | stuck =>
        obtain ⟨n, hn⟩ := xWhile_fuel (t := t) (b := b) (ρ := ρ)
        rw [hn]
        cases n with
        | zero => rfl
        | succ n => unfold whN; rw [e]; simp only [R.bind, if_true]; rw [e2]
      | exc x ρ2 => exact xWhile_of (n := 1) (by unfold whN; rw [e]; simp only [R.bind, if_true]; rw [e2]) (fun h => by cases h)
      | ok f ρ2 =>
        have again : ∀ f, (f = .nx ∨ f = .ct) → b ρ1 = .ok f ρ2 → xWhile t b ρ = xWhile t b ρ2 := fun f hf e2 => by
          obtain ⟨n, hn⟩ := xWhile_fuel (t := t) (b := b) (ρ := ρ2)
          have one : whN t b (n + 1) ρ = whN t b n ρ2 := by
            rw [whN, e]; simp only [R.bind, if_true]; rw [e2]
            rcases hf with rfl | rfl <;> rfl
          by_cases hs : whN t b n ρ2 = .stuck
          · -- nothing ends
            rw [hn, hs]
            obtain ⟨m, hm⟩ := xWhile_fuel (t := t) (b := b) (ρ := ρ)
            rw [hm]
            cases m with
            | zero => rfl
            | succ m =>
              have om : whN t b (m + 1) ρ = whN t b m ρ2 := by
                rw [whN, e]; simp only [R.bind, if_true]; rw [e2]
                rcases hf with rfl | rfl <;> rfl
              rw [om]
              by_cases hs2 : whN t b m ρ2 = .stuck
              · exact hs2
              · exfalso
                have := xWhile_of (t := t) (b := b) (n := m) (ρ := ρ2) rfl hs2
                rw [hn, hs] at this
                exact hs2 this.symm
          · rw [hn]; exact xWhile_of (n := n + 1) one hs
        cases f with
        | nx => exact again .nx (.inl rfl) e2
        | ct => exact again .ct (.inr rfl) e2
        | bk => exact xWhile_of (n := 1) (by unfold whN; rw [e]; simp only [R.bind, if_true]; rw [e2]) (fun h => by cases h)
        | rt d => exact xWhile_of (n := 1) (by unfold whN; rw [e]; simp only [R.bind, if_true]; rw [e2]) (fun h => by cases h)
        | rn d => exact xWhile_of (n := 1) (by unfold whN; rw [e]; simp only [R.bind, if_true]; rw [e2]) (fun h => by cases h)
section
variable {X : Cx} {W : WX}
theorem AS.while_ {c : Expr} {body : List Stmt} {t : M Bool} {b : M Fl} {pos : Pos} (hp : PassesOwn (model X.prog X.w) X.A X.env X.xe) (hc : AT X W c t) (hb : AB X W body b) : AS X W (.While c body [] pos) (xWhile t b) := by
  obtain ⟨tc, pc, qc⟩ := hc
  obtain ⟨tb, pb, qb⟩ := hb
  refine ⟨_, ps_while hp pc pb, fun G σ H F ρ Dn S hg => ?_⟩
  obtain ⟨n, hn⟩ := xWhile_fuel (t := t) (b := b) (ρ := ρ)
  rw [hn] at hg
  refine ⟨fun m σ' H' => ∃ F' ρ', Stt X.K G σ' H' F' ρ' ∧ Sm F F' ∧ GoodS X.K G W F' (whN t b m ρ') Dn, ⟨n, F, ρ, S, Sm.refl, hg⟩, ?_⟩
  rintro m σ' H' ⟨F', ρ', S', s', hgm⟩
  cases m with
  | zero => exact hgm.elim
  | succ m =>
    refine qc G σ' H' F' ρ' _ S' (GoodS.bind (r := t ρ') hgm fun k ρ1 H1 F1 S1 s1 g1 => ?_)
    cases k with
    | false =>
      rw [if_neg Bool.false_ne_true] at g1
      show if false = true then _ else Dn.nx σ' H1
      rw [if_neg Bool.false_ne_true]
      exact g1 σ' H1 F1 S1 Sm.refl
    | true =>
      rw [if_pos rfl] at g1
      show if true = true then _ else Dn.nx σ' H1
      rw [if_pos rfl]
      refine ⟨fun σ2 H2 => ∃ F2 ρ2, Stt X.K G σ2 H2 F2 ρ2 ∧ Sm F F2 ∧ GoodS X.K G W F2 (whN t b m ρ2) Dn, fun σ2 H2 hh => ⟨m, Nat.lt_succ_self m, hh⟩, qb G σ' H1 F1 ρ1 _ S1 ?_⟩
      cases e : b ρ1 with
      | stuck => rw [e] at g1; exact g1.elim
      | exc x ρ2 => rw [e] at g1; exact g1
      | ok f ρ2 =>
        rw [e] at g1
        cases f with
        | nx => exact fun σ2 H2 F2 S2 s2 => ⟨F2, ρ2, S2, s'.tr (s1.tr s2), GoodS.mono s2 g1⟩
        | ct => exact fun σ2 H2 F2 S2 s2 => ⟨F2, ρ2, S2, s'.tr (s1.tr s2), GoodS.mono s2 g1⟩
        | bk => exact g1
        | rt d => exact g1
        | rn d => exact g1
end

/-! ### comprehensions -/
def wipeR (ρ : Ro) : List Nat → Ro
  | [] => ρ
  | v :: vs => (wipeR ρ vs).set v .un
/-- the slots vs as they stood ahead -/
def backR (ρ0 : Ro) (ρ : Ro) : List Nat → Ro
  | [] => ρ
  | v :: vs => (backR ρ0 ρ vs).set v (ρ0.getD v .un)
def freeR (ρ : Ro) (vs : List Nat) : Bool := vs.all fun v => !(ρ.getD v .un).isIo
def plainR (ρ : Ro) (vs : List Nat) : Bool := vs.all fun v => !(ρ.getD v .un).isFar
def lcM (vs : List Nat) (t : Tg) (c : M Bool) (el : M D) : List D → List D → Ro → R (List D)
  | [], acc, ρ => .ok acc ρ
  | d :: ds, acc, ρ => if plainR ρ vs = true then (putT t d (wipeR ρ vs)).bind fun _ ρ1 => (c ρ1).bind fun k ρ2 =>
      if k = true then (el ρ2).bind fun y ρ3 => if acc.length < sizeLine ∧ freeR ρ3 vs = true then lcM vs t c el ds (acc ++ [y]) (backR ρ ρ3 vs) else .stuck
      else if freeR ρ2 vs = true then lcM vs t c el ds acc (backR ρ ρ2 vs) else .stuck
    else .stuck
/-- no exception leaves -/
def R.nox {α : Type} (r : R α) : R α := match r with
  | .ok a ρ => .ok a ρ
  | _ => .stuck
def mLc (it : M (List D)) (vs : List Nat) (t : Tg) (c : M Bool) (el : M D) : M (List D) := fun ρ => (it ρ).bind fun ds ρ => (lcM vs t c el ds [] ρ).nox
def tYesM : M Bool := fun ρ => .ok true ρ
abbrev W0 : WX := fun _ _ _ _ => False
def ATs (X : Cx) (W : WX) (es : List Expr) (f : M Bool) : Prop := ∃ t, PTs X es t ∧ ∀ G σ H F ρ Q, Stt X.K G σ H F ρ → Good X.K G W σ F (f ρ) (PB Q) → t σ H Q
end Mr
namespace Mr
open PySem PySem.Spec PyProof.Rows L2
variable [Lam] [Pins]

/-! ### comprehensions: what they do is what lcM says -/
theorem getD_wipe (ρ : Ro) : ∀ (vs : List Nat) (i : Nat), (wipeR ρ vs).getD i .un = if i ∈ vs then .un else ρ.getD i .un
  | [], i => by simp [wipeR]
  | v :: vs, i => by
    unfold wipeR
    rw [getD_set, getD_wipe ρ vs i]
    by_cases h : v = i
    · subst h
      by_cases l : v < (wipeR ρ vs).length
      · simp [l]
      · rw [if_neg (fun c => l c.2)]
        simp only [List.mem_cons, true_or, if_true]
        split
        · rfl
        · rename_i hm
          have hl : ∀ vs : List Nat, (wipeR ρ vs).length = ρ.length := fun vs => by
            induction vs with
            | nil => rfl
            | cons a r ih => unfold wipeR; rw [List.length_set, ih]
          rw [hl] at l
          rw [List.getD_eq_getElem?_getD, List.getElem?_eq_none (by omega)]; rfl
    · rw [if_neg (fun c => h c.1)]
      simp [List.mem_cons, Ne.symm h]
theorem len_wipeR (ρ : Ro) : ∀ vs : List Nat, (wipeR ρ vs).length = ρ.length
  | [] => rfl
  | v :: vs => by unfold wipeR; rw [List.length_set, len_wipeR ρ vs]
theorem get_wipe (σ : St) : ∀ (vs : List Nat) (i : Nat), i ∉ vs → (wipe σ vs)[i]? = σ[i]?
  | [], i, _ => rfl
  | v :: vs, i, h => by
    unfold wipe
    rw [List.getElem?_set_ne (fun e => h (by simp [e])), get_wipe σ vs i (fun hm => h (List.mem_cons_of_mem _ hm))]
theorem wipe_same {σ τ : St} : ∀ (vs : List Nat), σ.length = τ.length → (∀ i, i ∉ vs → σ[i]? = τ[i]?) → wipe σ vs = wipe τ vs := fun vs hl h => by
  apply List.ext_getElem?
  intro i
  by_cases hi : i ∈ vs
  · have key : ∀ (α : St) (vs : List Nat), i ∈ vs → (wipe α vs)[i]? = if i < α.length then some none else none := fun α vs => by
      induction vs with
      | nil => intro h; cases h
      | cons v r ih =>
        intro h
        unfold wipe
        rw [get_setσ, wipe_length]
        by_cases hv : v = i
        · subst hv
          by_cases l : v < α.length
          · simp [l]
          · rw [if_neg (fun c => l c.2), if_neg l, List.getElem?_eq_none (by rw [wipe_length]; omega)]
        · rw [if_neg (fun c => hv c.1)]
          exact ih ((List.mem_cons.mp h).resolve_left (Ne.symm hv))
    rw [key σ vs hi, key τ vs hi, hl]
  · rw [get_wipe σ vs i hi, get_wipe τ vs i hi, h i hi]
section
variable {K : PySem.W.Frag} {G : Ent} {σ σ2 : St} {H F : Hp} {ρ ρ2 : Ro}
/-- the block's own slots are forgotten -/
theorem Stt.wiped (S : Stt K G σ H F ρ) : ∀ (vs : List Nat), (∀ v ∈ vs, (ρ.getD v .un).isIo = false) → Stt K G (wipe σ vs) H F (wipeR ρ vs)
  | [], _ => S
  | v :: vs, h => by
    have ih := Stt.wiped S vs fun u hu => h u (List.mem_cons_of_mem _ hu)
    refine ih.drop (i := v) (v := none) ?_
    rw [getD_wipe]
    split
    · rfl
    · exact h v (List.mem_cons_self ..)
/-- .. and stand again as they stood -/
theorem Stt.backed {ρ0 : Ro} (S : Stt K G σ2 H F ρ2) (hl : σ.length = σ2.length) : ∀ (vs ws : List Nat), (∀ v ∈ vs, (ρ2.getD v .un).isIo = false) → (∀ v ∈ vs, (ρ0.getD v .un).isFar = false ∧ SlotOk K H F (σ[v]?) (ρ0.getD v .un)) →
    ∃ τ, Stt K G τ H F (backR ρ0 ρ2 vs) ∧ (∀ i, i ∉ vs → τ[i]? = σ2[i]?) ∧ (∀ i ∈ vs, τ[i]? = σ[i]?) ∧ τ.length = σ2.length
  | [], _, _, _ => ⟨σ2, S, fun _ _ => rfl, fun _ h => (nomatch h), rfl⟩
  | v :: vs, ws, h1, h2 => by
    obtain ⟨τ, S1, o1, o2, l1⟩ := Stt.backed S hl vs ws (fun u hu => h1 u (List.mem_cons_of_mem _ hu)) fun u hu => h2 u (List.mem_cons_of_mem _ hu)
    obtain ⟨no, ok⟩ := h2 v (List.mem_cons_self ..)
    have hio : ((backR ρ0 ρ2 vs).getD v .un).isIo = false := by
      have key : ∀ ws : List Nat, (∀ u ∈ ws, (ρ0.getD u .un).isFar = false) → ((backR ρ0 ρ2 ws).getD v .un).isIo = false := fun ws => by
        induction ws with
        | nil => intro _; exact h1 v (List.mem_cons_self ..)
        | cons u r ih =>
          intro hw
          unfold backR
          rw [getD_set]
          split
          · exact SV.far_io (hw u (List.mem_cons_self ..))
          · exact ih fun x hx => hw x (List.mem_cons_of_mem _ hx)
      exact key vs fun u hu => (h2 u (List.mem_cons_of_mem _ hu)).1
    have hio2 : (ρ0.getD v .un).isIo = false := SV.far_io no
    by_cases hv : v < τ.length
    · obtain ⟨x, hx⟩ : ∃ x, σ[v]? = some x := ⟨_, List.getElem?_eq_getElem (by omega)⟩
      rw [hx] at ok
      refine ⟨τ.set v x, S1.set hio ok hio2 (fun hh => by rw [SV.far_own no] at hh; cases hh), fun i hi => ?_, fun i hi => ?_, by rw [List.length_set, l1]⟩
      · rw [List.getElem?_set_ne (fun e => hi (by simp [e]))]
        exact o1 i fun hm => hi (List.mem_cons_of_mem _ hm)
      · by_cases e : v = i
        · subst e; rw [List.getElem?_set_self hv, hx]
        · rw [List.getElem?_set_ne e]
          exact o2 i ((List.mem_cons.mp hi).resolve_left (Ne.symm e))
    · have hs : (backR ρ0 ρ2 vs).set v (ρ0.getD v .un) = backR ρ0 ρ2 vs := List.set_eq_of_length_le (by rw [S1.len]; omega)
      refine ⟨τ, by unfold backR; rw [hs]; exact S1, fun i hi => o1 i fun hm => hi (List.mem_cons_of_mem _ hm), fun i hi => ?_, l1⟩
      by_cases e : v = i
      · subst e; rw [List.getElem?_eq_none (by omega), List.getElem?_eq_none (by omega)]
      · exact o2 i ((List.mem_cons.mp hi).resolve_left (Ne.symm e))
end
mutual
theorem len_putT : ∀ (t : Tg) (d : D) (ρ ρ' : Ro) (u : Unit), putT t d ρ = .ok u ρ' → ρ'.length = ρ.length
  | .sl i, d, ρ, ρ', u, h => by
    unfold putT at h
    split at h
    · cases h
    · cases h; rw [List.length_set]
  | .tp ts, .tup xs, ρ, ρ', u, h => by
    unfold putT at h
    split at h
    · exact len_putTs ts xs ρ ρ' u h
    · cases h
  | .tp ts, .non, ρ, ρ', u, h => by unfold putT at h; cases h
  | .tp ts, .bl _, ρ, ρ', u, h => by unfold putT at h; cases h
  | .tp ts, .int _, ρ, ρ', u, h => by unfold putT at h; cases h
  | .tp ts, .str _, ρ, ρ', u, h => by unfold putT at h; cases h
  | .tp ts, .lst _, ρ, ρ', u, h => by unfold putT at h; cases h
  | .tp ts, .frz _, ρ, ρ', u, h => by unfold putT at h; cases h
  | .tp ts, .obj _ _ _, ρ, ρ', u, h => by unfold putT at h; cases h
  | .tp ts, .dct _ _, ρ, ρ', u, h => by unfold putT at h; cases h
  | .tp ts, .opq _, ρ, ρ', u, h => by unfold putT at h; cases h
  | .tp ts, .any, ρ, ρ', u, h => by unfold putT at h; cases h
theorem len_putTs : ∀ (ts : List Tg) (ds : List D) (ρ ρ' : Ro) (u : Unit), putTs ts ds ρ = .ok u ρ' → ρ'.length = ρ.length
  | [], [], ρ, ρ', u, h => by unfold putTs at h; cases h; rfl
  | [], _ :: _, ρ, ρ', u, h => by unfold putTs at h; cases h
  | _ :: _, [], ρ, ρ', u, h => by unfold putTs at h; cases h
  | t :: ts, d :: ds, ρ, ρ', u, h => by
    unfold putTs at h
    cases e : putT t d ρ with
    | ok v ρ1 =>
      rw [e] at h
      rw [len_putTs ts ds ρ1 ρ' u h, len_putT t d ρ ρ1 v e]
    | exc y ρ1 => rw [e] at h; cases h
    | stuck => rw [e] at h; cases h
end
theorem not_own_io {sv : SV} (h : sv.isFar = false) : sv.isIo = false := SV.far_io h
section
variable {X : Cx} {W : WX} {elt tg iter c : Expr} {ifs : List Expr} {scope : Scope} {own : List (Str × Nat)} {pos : Pos} {it : M (List D)} {t : Tg} {tc : M Bool} {el : M D}
theorem ATs.nil : ATs X W [] tYesM := ⟨_, pts_nil, fun G σ H F ρ Q S hg => hg H F S Sm.refl⟩
theorem ATs.one (h : AT X W c tc) : ATs X W [c] tc := by
  obtain ⟨u, p, q⟩ := h
  exact ⟨_, pts_one p, q⟩
/-- the context of the block -/
abbrev blkX (X : Cx) (scope : Scope) (s : Shared) (H : Hp) (C : Addr) (cl : List (Str × Addr)) (fp : List Addr) : Cx := X.blk s H scope (compEnvC scope cl C X.env) fp
/-- the readings of a comprehension's parts, and what they are worth -/
theorem lc_parts (hi : AI X W tg iter it) (hsl : ∀ i ∈ slT t, i ∈ own.map (·.2))
    (hg : ∀ s H C cl fp, AG (blkX X scope s H C cl fp) tg t) (ht : ∀ s H C cl fp, ATs (blkX X scope s H C cl fp) W0 ifs tc) (he : ∀ s H C cl fp, AE (blkX X scope s H C cl fp) W0 elt el) :
    ∃ wi g tt te, PI X tg iter wi ∧ (∀ s H C cl fp, PG (blkX X scope s H C cl fp) tg g) ∧ (∀ s H C cl fp, PTs (blkX X scope s H C cl fp) ifs tt) ∧ (∀ s H C cl fp, PE (blkX X scope s H C cl fp) elt te) ∧
      ∀ G σ H F ρ Q, Stt X.K G σ H F ρ → Good X.K G W σ F (mLc it (own.map (·.2)) t tc el ρ) (fun ds ρ' H' F' => ∀ a vs H2, Stt X.K ⟨G.H0, G.F0, G.io, (a, .lst vs) :: G.xt⟩ σ H2 F' ρ' → Reps X.K F' vs ds → Q (.ref a) H2) → tLc wi g tt te (own.map (·.2)) σ H Q := by
  obtain ⟨wi, pi, qi⟩ := hi
  -- one reading for every block
  let g : TG := fun v σ H Q => ∀ s H0 C cl fp, (Classical.choose (hg s H0 C cl fp)) v σ H Q
  let tt : TT := fun σ H Q => ∀ s H0 C cl fp, (Classical.choose (ht s H0 C cl fp)) σ H Q
  let te : TE := fun σ H Q => ∀ s H0 C cl fp, (Classical.choose (he s H0 C cl fp)) σ H Q
  have pg : ∀ s H C cl fp, PG (blkX X scope s H C cl fp) tg g := fun s H C cl fp => ⟨fun pins s1 σ H1 v u Q I r h => (Classical.choose_spec (hg s H C cl fp)).1.run pins s1 σ H1 v u Q I r (h s H C cl fp)⟩
  have pt : ∀ s H C cl fp, PTs (blkX X scope s H C cl fp) ifs tt := fun s H C cl fp => ⟨fun pins s1 σ H1 Q I h => (Classical.choose_spec (ht s H C cl fp)).1.run pins s1 σ H1 Q I (h s H C cl fp)⟩
  have pe : ∀ s H C cl fp, PE (blkX X scope s H C cl fp) elt te := fun s H C cl fp => ⟨fun pins s1 σ H1 Q I h => (Classical.choose_spec (he s H C cl fp)).1.run pins s1 σ H1 Q I (h s H C cl fp)⟩
  have qg : ∀ G σ H F ρ v d Q, Stt X.K G σ H F ρ → Rep X.K F v d → GoodT X.K G F σ (slT t) (putT t d ρ) Q → g v σ H Q := fun G σ H F ρ v d Q S r h s H0 C cl fp => (Classical.choose_spec (hg s H0 C cl fp)).2 G σ H F ρ v d Q S r h
  have qt : ∀ G σ H F ρ Q, Stt X.K G σ H F ρ → Good X.K G W0 σ F (tc ρ) (PB Q) → tt σ H Q := fun G σ H F ρ Q S h s H0 C cl fp => (Classical.choose_spec (ht s H0 C cl fp)).2 G σ H F ρ Q S h
  have qe : ∀ G σ H F ρ Q, Stt X.K G σ H F ρ → Good X.K G W0 σ F (el ρ) (PD X.K Q) → te σ H Q := fun G σ H F ρ Q S h s H0 C cl fp => (Classical.choose_spec (he s H0 C cl fp)).2 G σ H F ρ Q S h
  refine ⟨wi, g, tt, te, pi, pg, pt, pe, fun G σ H F ρ Q S hgd => qi G σ H F ρ _ S (hgd.bind fun ds ρ1 H1 F1 S1 s1 g1 J hJ Da hDa => ?_)⟩
  generalize hvs : own.map (·.2) = vs at hsl g1 ⊢
  -- the list at Da waits
  let GX : List V → Ent := fun ws => ⟨G.H0, G.F0, G.io, (Da, .lst ws) :: G.xt⟩
  refine ⟨fun i m H' => i + m = ds.length ∧ ∃ F' ρ' ws acc, Stt X.K (GX ws) σ H' F' ρ' ∧ Sm F1 F' ∧ Reps X.K F' ws acc ∧ Good X.K G W σ F' ((lcM vs t tc el (ds.drop i) acc ρ').nox) (fun ds ρ' H' F' => ∀ a vs H2, Stt X.K ⟨G.H0, G.F0, G.io, (a, .lst vs) :: G.xt⟩ σ H2 F' ρ' → Reps X.K F' vs ds → Q (.ref a) H2),
    ⟨ds.length, by omega, F1, ρ1, [], [], S1.xtNew hDa, Sm.refl, .nil, by rw [List.drop_zero]; exact g1⟩, ?_⟩
  rintro i m H' ⟨hm, F', ρ', ws, acc, S', s', ra, hgf⟩
  obtain ⟨stop, go⟩ := hJ i H' F' s' S'.sub
  by_cases hlt : i < ds.length
  · rw [List.drop_eq_getElem_cons hlt] at hgf
    obtain ⟨hgo, hy⟩ := go ds[i] (List.getElem?_eq_getElem hlt)
    refine .inr ⟨hgo, fun H2 => (i + 1) + (m - 1) = ds.length ∧ ∃ F' ρ' ws acc, Stt X.K (GX ws) σ H2 F' ρ' ∧ Sm F1 F' ∧ Reps X.K F' ws acc ∧ Good X.K G W σ F' ((lcM vs t tc el (ds.drop (i + 1)) acc ρ').nox) (fun ds ρ' H' F' => ∀ a vs H2, Stt X.K ⟨G.H0, G.F0, G.io, (a, .lst vs) :: G.xt⟩ σ H2 F' ρ' → Reps X.K F' vs ds → Q (.ref a) H2),
      fun H2 hn => ⟨m - 1, by omega, hn⟩, fun x H2 hyl => ?_⟩
    obtain ⟨F2, A2, r2⟩ := hy x H2 hyl
    have S2 := S'.aft A2
    have ra2 := ra.mono A2.f
    unfold lcM at hgf
    by_cases hpl : plainR ρ' vs = true
    · rw [if_pos hpl] at hgf
      have hpl' : ∀ v ∈ vs, (ρ'.getD v .un).isFar = false := fun v hv => by
        have := List.all_eq_true.mp hpl v hv
        simpa using this
      have S3 := S2.wiped vs fun v hv => not_own_io (hpl' v hv)
      refine qg (GX ws) (wipe σ vs) H2 F2 (wipeR ρ' vs) x _ _ S3 r2 ?_
      cases e : putT t ds[i] (wipeR ρ' vs) with
      | ok u ρ3 =>
        rw [e] at hgf
        refine fun σ3 H3 F3 S4 s4 o4 => ?_
        have l3 : σ3.length = (wipe σ vs).length := by
          rw [← S4.len, len_putT _ _ _ _ _ e, ← S3.len]
        have w3 : wipe σ3 vs = wipe σ vs := by
          refine wipe_same vs (by rw [l3, wipe_length]) fun j hj => ?_
          rw [o4 j fun hm => hj (hsl j hm), get_wipe σ vs j hj]
        have o3 : ∀ j, j ∉ vs → σ3[j]? = σ[j]? := fun j hj => by rw [o4 j fun hm => hj (hsl j hm), get_wipe σ vs j hj]
        refine ⟨w3, ?_⟩
        have ra3 := ra2.mono s4
        -- back to the slots of the def
        have back : ∀ {ws' : List V} {H6 F6 : Hp} {ρ6 : Ro}, Stt X.K (GX ws') σ3 H6 F6 ρ6 → Sm F3 F6 → freeR ρ6 vs = true → Stt X.K (GX ws') σ H6 F6 (backR ρ' ρ6 vs) := fun {ws' H6 F6 ρ6} S6 s6 hf => by
          have hf' : ∀ v ∈ vs, (ρ6.getD v .un).isIo = false := fun v hv => by
            have := List.all_eq_true.mp hf v hv
            simpa using this
          obtain ⟨τ, Sτ, t1, t2, tl⟩ := S6.backed (σ := σ) (ρ0 := ρ') (by rw [l3, wipe_length]) vs vs hf' fun v hv => ⟨hpl' v hv, by
            have q := S'.at_ v
            have no := hpl' v hv
            cases ev : ρ'.getD v .un with
            | un => trivial
            | val d => rw [ev] at q; obtain ⟨w, e1, r⟩ := q; exact ⟨w, e1, r.mono (A2.f.tr (s4.tr s6))⟩
            | own p xs => rw [ev] at no; cases no
            | ins p C ns dd => rw [ev] at no; cases no
            | dic p ks dd => rw [ev] at no; cases no
            | pin => rw [ev] at no; cases no⟩
          have eτ : τ = σ := by
            apply List.ext_getElem?
            intro j
            by_cases hj : j ∈ vs
            · exact t2 j hj
            · rw [t1 j hj, o3 j hj]
          rw [eτ] at Sτ
          exact Sτ
        have hgf : Good X.K G W σ F3 (((tc ρ3).bind fun k ρ2 =>
            if k = true then (el ρ2).bind fun y ρ3 => if acc.length < sizeLine ∧ freeR ρ3 vs = true then lcM vs t tc el (ds.drop (i + 1)) (acc ++ [y]) (backR ρ' ρ3 vs) else .stuck
            else if freeR ρ2 vs = true then lcM vs t tc el (ds.drop (i + 1)) acc (backR ρ' ρ2 vs) else .stuck).nox) _ := Good.mono (A2.f.tr s4) hgf
        refine qt (GX ws) σ3 H3 F3 ρ3 _ S4 ?_
        cases ec : tc ρ3 with
        | ok k ρ4 =>
          rw [ec] at hgf
          refine fun H5 F5 S5 s5 => ?_
          have ra5 := ra3.mono s5
          cases k with
          | true =>
            show if true = true then _ else _
            rw [if_pos rfl]
            refine qe (GX ws) σ3 H5 F5 ρ4 _ S5 ?_
            have hgf : Good X.K G W σ F5 (((el ρ4).bind fun y ρ3 => if acc.length < sizeLine ∧ freeR ρ3 vs = true then lcM vs t tc el (ds.drop (i + 1)) (acc ++ [y]) (backR ρ' ρ3 vs) else .stuck).nox) _ := Good.mono s5 hgf
            cases ee : el ρ4 with
            | ok y ρ5 =>
              rw [ee] at hgf
              refine fun H6 F6 S6 s6 v rv => ?_
              have hgf : Good X.K G W σ F6 ((if acc.length < sizeLine ∧ freeR ρ5 vs = true then lcM vs t tc el (ds.drop (i + 1)) (acc ++ [y]) (backR ρ' ρ5 vs) else .stuck).nox) _ := Good.mono s6 hgf
              split at hgf
              · rename_i hz
                have S7 := back S6 (s5.tr s6) hz.2
                obtain ⟨x1, x2, x3, x4⟩ := S6.xt (Da, .lst ws) (List.mem_cons_self ..)
                refine ⟨ws, x1, by rw [ra.length]; exact hz.1, by omega, F6, _, ws ++ [v], acc ++ [y], S7.xtUpd, s'.tr (A2.f.tr (s4.tr (s5.tr s6))), (ra5.mono s6).append (.cons rv .nil), hgf⟩
              · exact hgf.elim
            | exc xx ρ5 => rw [ee] at hgf; exact hgf.elim
            | stuck => rw [ee] at hgf; exact hgf.elim
          | false =>
            show if false = true then _ else _
            rw [if_neg Bool.false_ne_true]
            have hgf : Good X.K G W σ F5 ((if freeR ρ4 vs = true then lcM vs t tc el (ds.drop (i + 1)) acc (backR ρ' ρ4 vs) else .stuck).nox) _ := Good.mono s5 hgf
            split at hgf
            · rename_i hz
              exact ⟨by omega, F5, _, ws, acc, back S5 s5 hz, s'.tr (A2.f.tr (s4.tr s5)), ra5, hgf⟩
            · exact hgf.elim
        | exc xx ρ4 => rw [ec] at hgf; exact hgf.elim
        | stuck => rw [ec] at hgf; exact hgf.elim
      | exc xx ρ3 => rw [e] at hgf; exact hgf.elim
      | stuck => rw [e] at hgf; exact hgf.elim
    · rw [if_neg hpl] at hgf; exact hgf.elim
  · have e0 : ds.drop i = [] := List.drop_eq_nil_of_le (by omega)
    rw [e0] at hgf
    have hgf : Good X.K G W σ F' (.ok acc ρ') (fun ds ρ' H' F' => ∀ a vs H2, Stt X.K ⟨G.H0, G.F0, G.io, (a, .lst vs) :: G.xt⟩ σ H2 F' ρ' → Reps X.K F' vs ds → Q (.ref a) H2) := hgf
    exact .inl ⟨stop (by omega), hgf H' F' S'.xtDrop Sm.refl Da ws H' S' ra⟩
theorem AN.lc (hc : X.calm = true) (hN : X.N.Nodup) (hi : AI X W tg iter it) (ok : BlkOk X.N X.env.scope scope own) (hsl : ∀ i ∈ slT t, i ∈ own.map (·.2))
    (hg : ∀ s H C cl fp, AG (blkX X scope s H C cl fp) tg t) (ht : ∀ s H C cl fp, ATs (blkX X scope s H C cl fp) W0 ifs tc) (he : ∀ s H C cl fp, AE (blkX X scope s H C cl fp) W0 elt el)
    (hs : ∀ x, foldedSetIterable iter X.env x = pure x := by intro _; rfl) : AN X W (.ListComp elt [⟨tg, iter, ifs, 0⟩] scope pos) (mLc it (own.map (·.2)) t tc el) := by
  obtain ⟨wi, g, tt, te, pi, pg, pt, pe, q⟩ := lc_parts hi hsl hg ht he
  exact ⟨_, pe_lc hc hN pi ok pg pt pe hs, q⟩
/-- name = [..], the name a local -/
theorem AS.setLc {i : Nat} {y : Str} {py spos : Pos} (hc : X.calm = true) (hN : X.N.Nodup) (hy : X.N[i]? = some y) (hyl : X.env.scope.names.lookup y = some .local)
    (hsw : swapsWith (.ListComp elt [⟨tg, iter, ifs, 0⟩] scope pos) (some (.Name y py)) spos.line X.env = pure true) (hi : AI X W tg iter it) (ok : BlkOk X.N X.env.scope scope own) (hsl : ∀ i ∈ slT t, i ∈ own.map (·.2))
    (hg : ∀ s H C cl fp, AG (blkX X scope s H C cl fp) tg t) (ht : ∀ s H C cl fp, ATs (blkX X scope s H C cl fp) W0 ifs tc) (he : ∀ s H C cl fp, AE (blkX X scope s H C cl fp) W0 elt el)
    (hs : ∀ x, foldedSetIterable iter X.env x = pure x := by intro _; rfl) : AS X W (.Assign [.Name y py] (.ListComp elt [⟨tg, iter, ifs, 0⟩] scope pos) spos) (xPut (.sl i) (mOfN (mLc it (own.map (·.2)) t tc el))) := by
  obtain ⟨wi, g, tt, te, pi, pg, pt, pe, q⟩ := lc_parts hi hsl hg ht he
  refine ⟨_, ps_setLc hc hN hy hyl hsw pi ok pg pt pe hs, fun G σ H F ρ Dn S hgd => ?_⟩
  have hgd : GoodS X.K G W F ((mOfN (mLc it (own.map (·.2)) t tc el) ρ).bind fun d ρ => (putT (.sl i) d ρ).bind fun _ ρ => .ok .nx ρ) Dn := hgd
  unfold mOfN at hgd
  have h2 : GoodS X.K G W F ((mLc it (own.map (·.2)) t tc el ρ).bind fun ds ρ => (putT (.sl i) (.lst ds) ρ).bind fun _ ρ => .ok .nx ρ) Dn := by
    cases e : mLc it (own.map (·.2)) t tc el ρ <;> (rw [e] at hgd; exact hgd)
  refine q G σ H F ρ _ S (GoodS.bind h2 fun ds ρ1 H1 F1 S1 s1 g1 a vs H2 S2 r => ?_)
  obtain ⟨S3, s3⟩ := S2.xtFreeze
  unfold putT at g1
  split at g1
  · exact g1.elim
  · rename_i hh
    exact g1 _ H2 _ (S3.setVal (by simpa using hh) (.lst upd_same (r.mono s3))) s3
/-- .. to be changed later -/
theorem AS.ownLc {i : Nat} {y : Str} {py spos : Pos} (hc : X.calm = true) (hN : X.N.Nodup) (hy : X.N[i]? = some y) (hyl : X.env.scope.names.lookup y = some .local)
    (hsw : swapsWith (.ListComp elt [⟨tg, iter, ifs, 0⟩] scope pos) (some (.Name y py)) spos.line X.env = pure true) (hi : AI X W tg iter it) (ok : BlkOk X.N X.env.scope scope own) (hsl : ∀ i ∈ slT t, i ∈ own.map (·.2))
    (hg : ∀ s H C cl fp, AG (blkX X scope s H C cl fp) tg t) (ht : ∀ s H C cl fp, ATs (blkX X scope s H C cl fp) W0 ifs tc) (he : ∀ s H C cl fp, AE (blkX X scope s H C cl fp) W0 elt el)
    (hs : ∀ x, foldedSetIterable iter X.env x = pure x := by intro _; rfl) : AS X W (.Assign [.Name y py] (.ListComp elt [⟨tg, iter, ifs, 0⟩] scope pos) spos) (xOwn i (mLc it (own.map (·.2)) t tc el)) := by
  obtain ⟨wi, g, tt, te, pi, pg, pt, pe, q⟩ := lc_parts hi hsl hg ht he
  refine ⟨_, ps_setLc hc hN hy hyl hsw pi ok pg pt pe hs, fun G σ H F ρ Dn S hgd => q G σ H F ρ _ S (GoodS.bind hgd fun ds ρ1 H1 F1 S1 s1 g1 a vs H2 S2 r => ?_)⟩
  split at g1
  · exact g1.elim
  · rename_i hh
    obtain ⟨e1, e2, _, _⟩ := S2.xt (a, .lst vs) (List.mem_cons_self ..)
    exact g1 _ H2 F1 (S2.xtSlot (by simpa using hh) ⟨a, vs, rfl, e1, e2, r⟩ rfl) Sm.refl
end
end Mr
namespace Mr
open PySem PySem.Spec PyProof.Rows L2
variable [Lam] [Pins]

def xNever : M Fl := fun _ => .stuck
def xBk : M Fl := fun ρ => .ok .bk ρ
def xCt : M Fl := fun ρ => .ok .ct ρ
/-- i, j = .. -/
def xPar (i j : Nat) (fs : M (List D)) : M Fl := fun ρ => (fs ρ).bind fun ds ρ => match ds with
  | [d, e] => (putT (.sl i) d ρ).bind fun _ ρ => (putT (.sl j) e ρ).bind fun _ ρ => .ok .nx ρ
  | _ => .stuck
section
variable {X : Cx} {W : WX} {st : Stmt} {pos : Pos}
theorem AE.ty {T : String} {x : Str} (hg : Gl X x) (hm : X.mg x = none) (hv : bootBuiltins x = some (.type T)) (hn : x ≠ "__name__" := by decide) (hd : (x == ("__debug__" : Str)) = false := by decide) : AE X W (.Name x pos) (mC (.opq (.ty T))) :=
  .cst (v := .ty T) (pe_bltn hg hm hv rfl hn hd) fun _ _ => .opq _
theorem AS.never : AS X W st xNever := ⟨_, ps_never, fun G σ H F ρ Dn S hg => hg.elim⟩
theorem AS.bk : AS X W (.Break pos) xBk := AS.brk
theorem AS.ct : AS X W (.Continue pos) xCt := AS.cont
theorem AS.par {i j : Nat} {x y : Str} {a b : Expr} {fs : M (List D)} {px py pt : Pos} {kt k2 pt2} (hc : X.calm = true) (hN : X.N.Nodup) (hi : X.N[i]? = some x) (hj : X.N[j]? = some y) (hij : i ≠ j)
    (hx : X.env.scope.names.lookup x = some .local) (hy : X.env.scope.names.lookup y = some .local) (ha : AA X W [a, b] fs)
    (hw : swappedStores [.Tuple [.Name x px, .Name y py] kt pt] (.Tuple [a, b] k2 pt2) X.env = pure (some [x, y]) := by rfl)
    (hs : swapsWithSole [.Tuple [.Name x px, .Name y py] kt pt] (.Tuple [a, b] k2 pt2) pos.line X.env = pure false := by rfl) :
    AS X W (.Assign [.Tuple [.Name x px, .Name y py] kt pt] (.Tuple [a, b] k2 pt2) pos) (xPar i j fs) := by
  obtain ⟨t, p, q⟩ := ha
  refine ⟨_, ps_par hc hN hi hj hij hx hy p hw hs, fun G σ H F ρ Dn S hg => q G σ H F ρ _ S (GoodS.bind hg fun ds ρ1 H1 F1 S1 s1 g1 vs r1 => ?_)⟩
  split at g1
  · obtain ⟨v, u, rfl, rv, ru⟩ := reps2 r1
    refine ⟨v, u, rfl, ?_⟩
    unfold putT at g1
    split at g1
    · exact g1.elim
    · rename_i h1
      have g1 : GoodS X.K G W F1 ((if ((ρ1.set i (.val _)).getD j .un).isIo = true then R.stuck else .ok () ((ρ1.set i (.val _)).set j (.val _))).bind fun _ ρ => .ok .nx ρ) Dn := g1
      split at g1
      · exact g1.elim
      · rename_i h2
        have S2 := S1.setVal (i := i) (by simpa using h1) rv
        exact g1 _ H1 F1 (S2.setVal (by simpa using h2) ru) Sm.refl
  · exact g1.elim
/-- f(..), the last parameters by their defaults -/
theorem AE.callD {k n : Nat} {f : Addr} {fd : FuncData} {ps : List Str} {dvs : List V} {dd : List D} {x : Str} {p pos : Pos} {e : Expr} {es : List Expr} {fs : M (List D)} {m : List D → FR D}
    (Fn : FnG X.prog X.w X.K X.mg X.base k f fd ps (PSp X.K n m)) (hr : RoomG k X.A) (hg : Gl X x) (hm : X.mg x = some (.ref f)) (hk : PySem.W.keepIn X.K (.ref f) = true) (hb : ∃ dV, Vals dvs dV ∧ Binds X.K fd ps dV) (hdd : ∀ K H, Reps K H dvs dd) (tk : Takes X W)
    (ha : AA X W (e :: es) fs) (hdb : (x == ("__debug__" : Str)) = false := by decide) (he : starEach (e :: es) X.env = (false, eval e X.env) :: starEach es X.env := by rfl) (hpl : (backTo pos (starEach es X.env)).any (·.1) = false := by rfl) :
    AE X W (.Call (.Name x p) (e :: es) [] pos) (mCall m n dd fs) := by
  obtain ⟨dV, h1, h2⟩ := hb
  exact AE.call Fn hr hg hm hk h2 h1 hdd tk ha hdb he hpl
end
end Mr
namespace Mr
open PySem PySem.Spec PyProof.Rows L2
variable [Lam] [Pins]
/-- a table of the text's, as it stands where the law is called -/
structure TabAt (K : PySem.W.Frag) (h : Heap) (P : Addr) : Prop where
  cd : ∃ c, PySem.W.codeHdIn K c P = true
  no : K.lookup P = none
  at_ : h.get? P = some { cls := .none, data := .fields #[] }
/-- what is tracked where the law is called: the script, the tables -/
def Starts (T : List Addr) (H : Hp) : Prop := ∀ b, H b = none ∨ (b ∈ T ∧ H b = some (.tbl #[])) ∨ ∃ o xs, H b = some (.frz o (.lst xs))
/-- the law's def, called at the script: its promise over what the top left -/
theorem law_callG {P : Program} {w : World} {K : PySem.W.Frag} {mg mb : Str → Option Value} {k : Nat} {fa a : Addr} {fd : FuncData} {x : Str} {sp : Sp} {s : Shared} {vs : List Value} {ns : List Int} (T : List Addr) (hT : ∀ p ∈ T, TabAt K s.heap p)
    (KX : K.In s.heap) (hns : s.heap.Ns mainGlobals mg) (hb : s.heap.Ns builtinsNs mb) (hbb : ∀ x : Str, x ≠ "__name__" → mb x = bootBuiltins x) (hlim : s.heap.NoLimit) (hg : s.gens = #[])
    (ha : s.heap.get? a = some { cls := .type "list", data := .seq vs.toArray }) (hi : IntsAre vs ns) (hl : ns.length ≤ sizeLine) (hr : RoomG k callerA)
    (F : ∀ base : Heap, FnG P w K mg base k fa fd [x] sp) (hbind : ∀ (s : Shared) (u : Value), BindsTo s fd ⟨[u], []⟩ [(x, u)])
    (hsp : ∀ H : Hp, (∀ p ∈ T, H p = some (.tbl #[])) → SqL K H a (ns.map V.int) → sp [.ref a] H (fun v _ => v = .bl true) fun _ _ _ => False)
    (hCX : ∀ H e s', L2.CX P w [] H s (fun _ _ _ => False) e s' → False) :
    codeAny (model P w) callerA (.call (.ref fa) ⟨[.ref a], []⟩) (fun r s' => r = .ok (.ret (.bool true)) ∧ OldK s.heap s'.heap ∧ s'.os = s.os ∧ AllBare s'.gens) s := by
  have aT : a ∉ T := fun z => by
    have q := (hT a z).at_
    rw [ha] at q
    cases q
  have run : ∀ H : Hp, (∀ p ∈ T, H p = some (.tbl #[])) → Starts T H → SqL K H a (ns.map V.int) → HOk P w H s.heap → (∀ b, H b ≠ none → b = a ∨ b ∈ T) → (H a ≠ none → K.lookup a = none) →
      codeAny (model P w) callerA (.call (.ref fa) ⟨[.ref a], []⟩) (fun r s' => r = .ok (.ret (.bool true)) ∧ OldK s.heap s'.heap ∧ s'.os = s.os ∧ AllBare s'.gens) s := by
    intro H tabs only sq ok onlyA outK
    have hid : ∀ {b : Addr} {o : Obj}, s.heap.get? b = some o → H b = none → (hidT s.heap H).get? b = some o := fun e n => hidT_get e n
    have noDict : ∀ {b : Addr} {o : Obj} {es : Array DictEntry} {n : Nat}, s.heap.get? b = some o → o.data = .dict es n → H b = none := by
      intro b o es n e d
      cases q : H b with
      | none => rfl
      | some u =>
        rcases onlyA b (by rw [q]; simp) with eb | eb
        · rw [eb, ha] at e
          cases e
          cases (show Data.seq vs.toArray _ = Data.dict es n from d)
        · rw [(hT b eb).at_] at e
          cases e
          cases (show Data.fields #[] = Data.dict es n from d)
    have ns_ : ∀ {b : Addr} {m : Str → Option Value}, s.heap.Ns b m → (hidT s.heap H).Ns b m := fun ⟨o, es, n, e, d, r⟩ => ⟨o, es, n, hid e (noDict e d), d, r⟩
    have kIn : K.In (hidT s.heap H) := fun b o e => by
      refine hid (KX b o e) ?_
      cases q : H b with
      | none => rfl
      | some u =>
        rcases onlyA b (by rw [q]; simp) with eb | eb
        · rw [eb, outK (by rw [← eb, q]; simp)] at e
          cases e
        · rw [(hT b eb).no] at e
          cases e
    have md : Mod K mg (hidT s.heap H) := ⟨kIn, ns_ hns, ⟨mb, ns_ hb, hbb⟩, hlim.elim fun mc h => ⟨mc, ns_ h.1, h.2⟩⟩
    have e0 : Env0 P w K mg (hidT s.heap H) callerA [] s H := ⟨rfl, md, fun b o e => of_hidT e, Nat.le_of_eq (hidT_size _ _), trivial, fun b hb => (by cases (show b ∈ ([] : List Addr) from hb)), ok, .of_eq hg⟩
    refine codeAny_mono ((F (hidT s.heap H)).run callerA [] s H ⟨[.ref a], []⟩ [.ref a] [.ref a] _ _ hr e0 (hbind s (.ref a)) (.cons rfl .nil) (hsp H tabs sq)) fun r s2 h => ?_
    match r, h with
    | .error e, h => exact (hCX H e s2 h).elim
    | .ok .next, h => exact False.elim h
    | .ok .brk, h => exact False.elim h
    | .ok .cont, h => exact False.elim h
    | .ok (.ret u), ⟨v, H2, os, bare, un, ok2, rv, q⟩ =>
      have q : v = .bl true := q
      rw [q] at rv
      have ru : u = Value.bool true := rv
      rw [ru]
      have kept : ∀ b o, b ∉ T → s.heap.get? b = some o → s2.heap.get? b = some o := fun b o nb e => by
        cases hb : H b with
        | none => exact un.keep b o e hb (fun z => by cases z) (by simp)
        | some y =>
          rcases only b with z | ⟨z, _⟩ | ⟨ob, xs, z⟩
          · rw [hb] at z; cases z
          · exact absurd z nb
          · have e1 := (ok b _ z).1
            have e2 := (ok2 b _ (un.frzs b ob _ z)).1
            rw [e] at e1; cases e1
            exact e2
      have big : ∀ p ∈ T, ∃ more : Array Value, s2.heap.get? p = some { cls := .none, data := .fields more } := fun p hp => by
        obtain ⟨more, z⟩ := un.tbls p #[] (tabs p hp)
        exact ⟨_, ok2 p _ z⟩
      refine ⟨rfl, ⟨fun b o e => ?_, fun b o e => ?_⟩, os, bare⟩
      · by_cases hb : b ∈ T
        · obtain ⟨more, hm⟩ := big b hb
          have at0 := (hT b hb).at_
          obtain ⟨c, hc⟩ := (hT b hb).cd
          rw [at0] at e
          cases e
          refine .inr (.inl ⟨((PySem.W.codeHd_of_K KX hc).tab at0).isCodeTable, rfl, #[], more, rfl, ?_⟩)
          rw [Array.empty_append]
          exact hm
        · exact .inl (kept b o hb e)
      · by_cases hb : b ∈ T
        · obtain ⟨more, hm⟩ := big b hb
          exact ⟨_, hm⟩
        · exact ⟨o, kept b o hb e⟩
  have lenV := hi.length
  have rv := vals_ints hi
  obtain ⟨Ht, yesT, noT⟩ : ∃ Ht : Hp, (∀ b, b ∈ T → Ht b = some (.tbl #[])) ∧ ∀ b, b ∉ T → Ht b = none := ⟨fun b => if b ∈ T then some (.tbl #[]) else none, fun b e => if_pos e, fun b e => if_neg e⟩
  cases hk : K.lookup a with
  | some o =>
    have e := KX a o hk
    rw [ha] at e
    cases e
    refine run Ht yesT (fun b => ?_) (.inr ⟨_, vs.toArray, _, hk, rfl, rfl, rfl, by rw [List.size_toArray, lenV]; exact hl, by simpa using rv⟩) (fun b u z => ?_) (fun b z => ?_) fun z => absurd (noT a aT) z
    · by_cases h : b ∈ T
      · exact .inr (.inl ⟨h, yesT b h⟩)
      · exact .inl (noT b h)
    · by_cases h : b ∈ T
      · rw [yesT b h] at z
        cases z
        exact (hT b h).at_
      · rw [noT b h] at z; cases z
    · exact .inr (Classical.byContradiction fun h => z (noT b h))
  | none =>
    obtain ⟨Ha, yes, no⟩ : ∃ Ha : Hp, (∀ b, b = a → Ha b = some (HO.frz { cls := .type "list", data := .seq vs.toArray } (.lst (ns.map V.int)))) ∧ ∀ b, b ≠ a → Ha b = Ht b :=
      ⟨fun b => if b = a then some (HO.frz { cls := .type "list", data := .seq vs.toArray } (.lst (ns.map V.int))) else Ht b, fun b e => if_pos e, fun b e => if_neg e⟩
    refine run Ha (fun p hp => ?_) (fun b => ?_) (.inl (.inr ⟨_, yes a rfl⟩)) (fun b u z => ?_) (fun b z => ?_) fun _ => hk
    · rw [no p fun e => aT (e ▸ hp)]
      exact yesT p hp
    · by_cases e : b = a
      · exact .inr (.inr ⟨_, _, yes b e⟩)
      · rw [no b e]
        by_cases h : b ∈ T
        · exact .inr (.inl ⟨h, yesT b h⟩)
        · exact .inl (noT b h)
    · by_cases e : b = a
      · have z' := (yes b e).symm.trans z
        cases z'
        rw [e]
        exact ⟨ha, by rw [List.length_map]; exact hl, vs, _, rv, ha⟩
      · rw [no b e] at z
        by_cases h : b ∈ T
        · rw [yesT b h] at z
          cases z
          exact (hT b h).at_
        · rw [noT b h] at z; cases z
    · by_cases e : b = a
      · exact .inl e
      · refine .inr (Classical.byContradiction fun h => z ?_)
        rw [no b e, noT b h]
/-- the heap without its tables -/
def offT (H : Hp) : Hp := fun b => match H b with
  | some (.tbl _) => none
  | o => o
theorem offT_at {H : Hp} {b : Addr} {o : HO} (h : H b = some o) (n : isTb o = false) : offT H b = some o := by
  unfold offT
  rw [h]
  cases o <;> first | rfl | cases n
theorem offT_of {H : Hp} {b : Addr} {o : HO} (h : offT H b = some o) : H b = some o ∧ isTb o = false := by
  unfold offT at h
  cases e : H b with
  | none => rw [e] at h; cases h
  | some u =>
    rw [e] at h
    cases u <;> first | (cases h; exact ⟨rfl, rfl⟩) | cases h
theorem offT_sq {K : PySem.W.Frag} {H : Hp} {a : Addr} {xs : List V} (h : SqL K H a xs) : SqL K (offT H) a xs := by
  rcases h with (h | ⟨o, h⟩) | h
  · exact .inl (.inl (offT_at h rfl))
  · exact .inl (.inr ⟨o, offT_at h rfl⟩)
  · exact .inr h
/-- the law's promise of its mirror -/
theorem law_psp {K : PySem.W.Frag} {m : List D → FR D} {H : Hp} {a : Addr} {ns : List Int} (hH : ∀ p ∈ (Lam.T K).map (·.1), H p = some (.tbl #[])) (hS : SqL K H a (ns.map V.int)) (hm : m [.frz (ns.map .int)] = .ok (.bl true)) :
    PSp K 1 m [.ref a] H (fun v _ => v = .bl true) fun _ _ _ => False := by
  refine ⟨rfl, offT H, [.frz (ns.map .int)], ⟨fun b o e => (offT_of e).1, fun b o e => (offT_of e).2, fun p hp => LamX.TabS.nil (hH p.1 (List.mem_map.mpr ⟨p, hp, rfl⟩))⟩, .cons (.frz (offT_sq hS) (Reps.of_ints ns)) .nil, ?_⟩
  rw [hm]
  intro v H' F' _ r
  cases r
  rfl
end Mr
namespace Mr
open PySem PySem.Spec PyProof.Rows L2
variable [Lam] [Pins]

/-- the j-th statement of a class's body -/
def inCls (st : Stmt) (j : Nat) : Stmt := match st with
  | .ClassDef _ _ _ body _ _ _ _ _ _ _ => body.getD j (.Pass ⟨0, 0, 0, 0⟩)
  | _ => .Pass ⟨0, 0, 0, 0⟩
/-! ### instances: made, their fields, their methods -/
/-- the field f is y from now on -/
def putN (f : Str) : List Str → List Str
  | [] => [f]
  | n :: ns => if n = f then n :: ns else n :: putN f ns
def putX {α : Type} (f : Str) (y : α) : List Str → List α → List α
  | n :: ns, v :: vs => if n = f then y :: vs else v :: putX f y ns vs
  | _, _ => [y]
theorem putF_zip {f : Str} {y : V} : ∀ {ns : List Str} {vs : List V}, ns.length = vs.length → putF f y (ns.zip vs) = (putN f ns).zip (putX f y ns vs)
  | [], [], _ => rfl
  | n :: ns, v :: vs, h => by
    show (if n = f then (n, y) :: ns.zip vs else (n, v) :: putF f y (ns.zip vs)) = _
    unfold putN putX
    by_cases e : n = f
    · rw [if_pos e, if_pos e, if_pos e]; rfl
    · rw [if_neg e, if_neg e, if_neg e, putF_zip (by simpa using h)]; rfl
theorem putX_length {α : Type} {f : Str} {y : α} : ∀ {ns : List Str} {vs : List α}, ns.length = vs.length → (putN f ns).length = (putX f y ns vs).length
  | [], [], _ => rfl
  | n :: ns, v :: vs, h => by
    unfold putN putX
    by_cases e : n = f
    · rw [if_pos e, if_pos e]; exact h
    · rw [if_neg e, if_neg e, List.length_cons, List.length_cons, putX_length (by simpa using h)]
theorem putX_reps {K : PySem.W.Frag} {F : Hp} {f : Str} {v : V} {d : D} (r : Rep K F v d) : ∀ {ns : List Str} {vs : List V} {ds : List D}, Reps K F vs ds → Reps K F (putX f v ns vs) (putX f d ns ds)
  | [], [], [], .nil => .cons r .nil
  | [], _ :: _, _ :: _, .cons _ _ => .cons r .nil
  | _ :: _, [], [], .nil => .cons r .nil
  | n :: ns, _ :: _, _ :: _, .cons a q => by
    unfold putX
    by_cases e : n = f
    · rw [if_pos e, if_pos e]; exact .cons r q
    · rw [if_neg e, if_neg e]; exact .cons a (putX_reps r q)
/-- the field f -/
def fldX {α : Type} (f : Str) : List Str → List α → Option α
  | n :: ns, v :: vs => if f = n then some v else fldX f ns vs
  | _, _ => none
theorem fldX_rep {K : PySem.W.Frag} {F : Hp} {f : Str} {d : D} : ∀ {ns : List Str} {vs : List V} {ds : List D}, Reps K F vs ds → fldX f ns ds = some d → ∃ v, (ns.zip vs).lookup f = some v ∧ Rep K F v d
  | [], _, _, _, h => by simp [fldX] at h
  | _ :: _, _, _, .nil, h => by simp [fldX] at h
  | n :: ns, _ :: _, _ :: _, .cons (v := v) a q, h => by
    unfold fldX at h
    rw [List.zip_cons_cons]
    by_cases e : f = n
    · rw [if_pos e] at h
      cases h
      exact ⟨v, by simp [List.lookup, e], a⟩
    · rw [if_neg e] at h
      obtain ⟨w, e1, e2⟩ := fldX_rep q h
      exact ⟨w, by rw [List.lookup_cons, beq_eq_false_iff_ne.mpr e]; exact e1, e2⟩
/-- what is known of an own class: it is plain, and its fields are no class's -/
structure ClsF (K : PySem.W.Frag) (c : Str) (fs : List Str) : Prop where
  cl : Cls K (He.ga K c)
  no : ∀ f ∈ fs, NoAttr K (He.ga K c) f
/-- e.f of an instance -/
def fldD (cs : List Str) (f : Str) : D → FR D
  | .obj c ns ds => if c ∈ cs then match fldX f ns ds with
    | some d => .ok d
    | none => .stuck
    else .stuck
  | _ => .stuck
/-- self.f = e -/
def xFld (j : Nat) (c : Str) (f : Str) (e : M D) : M Fl := fun ρ => (e ρ).bind fun d ρ => match ρ.getD j .un with
  | .ins p c' ns ds => if c' = c ∧ ns.length < 1000 then .ok .nx (ρ.set j (.ins p c (putN f ns) (putX f d ns ds))) else .stuck
  | _ => .stuck
/-- self.f of an instance that may be changed -/
def mFldN (j : Nat) (cs : List Str) (f : Str) : M D := fun ρ => match ρ.getD j .un with
  | .ins _ c ns ds => if c ∈ cs then match fldX f ns ds with
    | some d => .ok d ρ
    | none => .stuck
    else .stuck
  | .val d => (fldD cs f d).lift ρ
  | _ => .stuck
/-- C(..) -/
def mMake (c : Str) (mi : SV → List D → IR) (n : Nat) (dd : List D) (fs : M (List D)) : M D := fun ρ => (fs ρ).bind fun ds ρ => if ds.length + dd.length = n then match mi (.ins true c [] []) (ds ++ dd) with
    | .ok .non (.ins _ c' ns xs) => if c' = c then .ok (.obj c ns xs) ρ else .stuck
    | .exc x _ => .exc x ρ
    | _ => .stuck
  else .stuck
section
variable {X : Cx} {W : WX} {k n : Nat} {f : Addr} {fd : FuncData} {ps : List Str} {sp : Sp} {dvs : List V} {dV : List Value} {dd : List D} {x c g : Str} {cs : List Str} {p pos py : Pos} {e o : Expr} {es : List Expr} {fs : M (List D)} {fe : M D} {m : List D → FR D} {mi : SV → List D → IR}
theorem AE.fld {fe : M D} (he : AE X W e fe) (hc : ∀ c ∈ cs, ClsF X.K c [g]) (hb : attributeBase e g X.env (eval e X.env) = eval e X.env) : AE X W (.Attribute e g pos) (m1 (fldD cs g) fe) := by
  obtain ⟨t, p, q⟩ := he
  refine ⟨_, pe_fld p hb, fun G σ H F ρ Q S hg => q G σ H F ρ _ S (hg.bind fun d ρ1 H1 F1 S1 s1 g1 v r1 => ?_)⟩
  cases r1 with
  | obj h1 h2 h3 h4 =>
    simp only [fldD] at g1
    split at g1
    · rename_i hz
      split at g1
      · rename_i w hw
        obtain ⟨u, e1, e2⟩ := fldX_rep h4 hw
        exact ⟨_, _, _, _, u, rfl, S1.sub _ _ h1, (hc _ hz).cl, (hc _ hz).no _ (by simp), by rw [h2]; exact e1, g1 H1 F1 S1 Sm.refl u e2⟩
      · exact g1.elim
    · exact g1.elim
  | _ => exact g1.elim
theorem AE.fldN {j : Nat} (h0 : PE X (.Name x py) (tVar j)) (hc : ∀ c ∈ cs, ClsF X.K c [g]) (hb : attributeBase (.Name x py) g X.env (eval (.Name x py) X.env) = eval (.Name x py) X.env) : AE X W (.Attribute (.Name x py) g pos) (mFldN j cs g) := by
  refine ⟨_, pe_fld h0 hb, fun G σ H F ρ Q S hg => ?_⟩
  have q := S.at_ j
  simp only [mFldN] at hg
  cases hs : ρ.getD j .un with
  | un => rw [hs] at hg; exact hg.elim
  | own p xs => rw [hs] at hg; exact hg.elim
  | val d =>
    rw [hs] at hg q
    obtain ⟨v, e1, r⟩ := q
    refine ⟨v, e1, ?_⟩
    cases r with
    | obj h1 h2 h3 h4 =>
      simp only [fldD] at hg
      split at hg
      · rename_i hz
        split at hg
        · rename_i w hw
          obtain ⟨u, e1, e2⟩ := fldX_rep h4 hw
          exact ⟨_, _, _, _, u, rfl, S.sub _ _ h1, (hc _ hz).cl, (hc _ hz).no _ (by simp), by rw [h2]; exact e1, hg H F S Sm.refl u e2⟩
        · exact hg.elim
      · exact hg.elim
    | _ => exact hg.elim
  | dic p ks ds => rw [hs] at hg; exact hg.elim
  | pin => rw [hs] at hg; exact hg.elim
  | ins p c ns ds =>
    rw [hs] at hg q
    obtain ⟨a, dx, vs, e1, e2, e3, e4, r⟩ := q
    have hg : Good X.K G W σ F (if c ∈ cs then match fldX g ns ds with | some d => R.ok d ρ | none => .stuck else .stuck) (PD X.K Q) := hg
    refine ⟨_, e1, ?_⟩
    split at hg
    · rename_i hz
      split at hg
      · rename_i w hw
        obtain ⟨u, f1, f2⟩ := fldX_rep r hw
        exact ⟨_, _, _, _, u, rfl, e2, (hc _ hz).cl, (hc _ hz).no _ (by simp), f1, hg H F S Sm.refl u f2⟩
      · exact hg.elim
    · exact hg.elim
theorem AS.fld {j : Nat} {pos' : Pos} (hv : AE X W e fe) (h0 : PE X (.Name x py) (tVar j)) (hc : ClsF X.K c [g]) (hs : swapsWith e (some (.Attribute (.Name x py) g pos')) pos.line X.env = pure false := by rfl) :
    AS X W (.Assign [.Attribute (.Name x py) g pos'] e pos) (xFld j c g fe) := by
  obtain ⟨t, p, q⟩ := hv
  refine ⟨_, ps_fld h0 p hs, fun G σ H F ρ Dn S hg => q G σ H F ρ _ S (GoodS.bind hg fun d ρ1 H1 F1 S1 s1 g1 v r1 => ?_)⟩
  have qs := S1.at_ j
  cases hs : ρ1.getD j .un with
  | ins p c' ns ds =>
    rw [hs] at g1 qs
    have g1 : GoodS X.K G W F1 (if c' = c ∧ ns.length < 1000 then R.ok .nx (ρ1.set j (.ins p c (putN g ns) (putX g d ns ds))) else .stuck) Dn := g1
    split at g1
    · rename_i hz
      obtain ⟨rfl, hl⟩ := hz
      obtain ⟨a, dx, vs, e1, e2, e3, e4, r⟩ := qs
      have hz2 : (ns.zip vs).length < 1000 := by rw [List.length_zip]; omega
      refine ⟨_, e1, a, _, dx, _, rfl, e2, hc.cl, hc.no _ (by simp), hz2, ?_⟩
      rw [putF_zip e3]
      exact g1 σ _ F1 (S1.change (i := j) (a := a) (sv := .ins p c' (putN g ns) (putX g d ns ds)) (by rw [hs]; rfl) e1 (S1.own_upd (by rw [hs]; rfl) e1) (fun b o h => by
        rw [upd_ne (fun z => by subst z; rw [e4] at h; cases h)]; exact S1.sub b o h) Sm.refl (fun b o h => .inl h) S1.ft ⟨a, dx, putX g v ns vs, rfl, upd_same, putX_length e3, e4, putX_reps r1 r⟩ rfl (by rw [hs]; rfl)) Sm.refl
    · exact g1.elim
  | _ => rw [hs] at g1; exact g1.elim
def tMakeW (W : WX) (C : Addr) (sp : Sp) (dvs : List V) (t : TA) : TE := fun σ H Q => t σ H fun vs H1 => ∀ x dx, H1 x = none → H1 dx = none → dx ≠ x →
  sp (.ref x :: (vs ++ dvs)) (upd (upd H1 dx (.own x)) x (.ins C dx [])) (fun v H2 => v = .non ∧ Q (.ref x) H2) (WE W σ)
theorem run_makeW {C : Addr} {pins : List (Addr × Obj)} {σ : St} {H : Hp} {s : Shared} {Q : VK} {us : List Value} {vs : List V} (M : L2.Mk X.K C f) (Fn : FnG X.prog X.w X.K X.mg X.base k f fd ps sp) (hr : RoomG (k + 1) X.A) (hb : Binds X.K fd ps dV) (hd : Vals dvs dV)
    (tk : Takes X W) (I : Inv X pins σ H s) (r : Vals vs us)
    (h : ∀ x dx, H x = none → H dx = none → dx ≠ x → sp (.ref x :: (vs ++ dvs)) (upd (upd H dx (.own x)) x (.ins C dx [])) (fun v H2 => v = .non ∧ Q (.ref x) H2) (WE W σ)) :
    wpAny (model X.prog X.w) X.A (call (.ref C) us) (EP X pins σ Q) X.xe s := by
  have hq := h (s.heap.objs.size + 1) s.heap.objs.size (I.hok.fresh (Nat.le_succ _)) (I.hok.fresh (Nat.le_refl _)) (Nat.ne_of_lt (Nat.lt_succ_self _))
  have I2 := Inv.made (C := C) I
  have r2 : Vals (V.ref (s.heap.objs.size + 1) :: (vs ++ dvs)) (Value.ref (s.heap.objs.size + 1) :: (us ++ dV)) := .cons rfl (r.append hd)
  have hl : (Value.ref (s.heap.objs.size + 1) :: us ++ dV).length = ps.length := by
    have e := r2.length
    rw [Fn.len _ _ _ _ hq] at e
    exact e.symm
  refine wpAny_call (make_map (f := f) I.kIn M.makes M.init (beq_iff_eq.mp M.fn) (codeAny_mono (Fn.run _ X.stack _ _ ⟨Value.ref (s.heap.objs.size + 1) :: us, []⟩ (Value.ref (s.heap.objs.size + 1) :: (us ++ dV)) _ _ _ (hr.make C us [])
    (I2.env0.make C us []) (hb _ (Value.ref (s.heap.objs.size + 1) :: us) I2.kIn hl) r2 hq) fun r s' hq' => ?_))
  cases r with
  | error e => exact passAt tk σ pins _ _ e s' I2 hq'
  | ok fl =>
    cases fl with
    | ret u =>
      obtain ⟨v, H', I3, rv, ev, q3⟩ := I2.after hq'
      subst ev
      exact ⟨rv, ⟨V.ref (s.heap.objs.size + 1), H', I3, rfl, q3⟩⟩
    | _ => exact hq'.elim
theorem pe_makeW {C : Addr} {ta : TA} (M : L2.Mk X.K C f) (Fn : FnG X.prog X.w X.K X.mg X.base k f fd ps sp) (hr : RoomG (k + 1) X.A) (hg : Gl X x) (hm : X.mg x = some (.ref C)) (hb : Binds X.K fd ps dV) (hd : Vals dvs dV) (tk : Takes X W)
    (ha : PA X (e :: es) ta) (hdb : (x == ("__debug__" : Str)) = false := by decide) (he : starEach (e :: es) X.env = (false, eval e X.env) :: starEach es X.env := by rfl) (hpl : (backTo pos (starEach es X.env)).any (·.1) = false := by rfl) :
    PE X (.Call (.Name x p) (e :: es) [] pos) (tMakeW W C sp dvs ta) := by
  refine ⟨fun pins s σ H Q I h => ?_⟩
  refine wpAny_Call_Name_kw (ld_glob I hg hm ?_ hdb)
  refine PySem.W.callWith_K (h₀ := X.base) I.ok.mod.kin M.kp (thn (ha.run pos pins s σ H _ I h) fun us s1 ⟨vs, H1, I1, r, q⟩ => ⟨I1.kIn, ?_⟩) he hpl
  exact run_makeW M Fn hr hb hd tk I1 r q
theorem AE.make (M : L2.Mk X.K (He.ga X.K c) f) (Fn : FnG X.prog X.w X.K X.mg X.base k f fd ps (ISp X.K n mi)) (hr : RoomG (k + 1) X.A) (hg : Gl X x) (hm : X.mg x = some (.ref (He.ga X.K c))) (hb : Binds X.K fd ps dV) (hd : Vals dvs dV) (hdd : ∀ K H, Reps K H dvs dd) (tk : Takes X W)
    (ha : AA X W (e :: es) fs) (hdb : (x == ("__debug__" : Str)) = false := by decide) (he : starEach (e :: es) X.env = (false, eval e X.env) :: starEach es X.env := by rfl) (hpl : (backTo pos (starEach es X.env)).any (·.1) = false := by rfl) :
    AE X W (.Call (.Name x p) (e :: es) [] pos) (mMake c mi n dd fs) := by
  obtain ⟨t, pa, qa⟩ := ha
  refine ⟨_, pe_makeW M Fn hr hg hm hb hd tk pa hdb he hpl, fun G σ H F ρ Q S hgd => qa G σ H F ρ _ S (hgd.bind fun ds ρ1 H1 F1 S1 s1 g1 vs r1 => fun x dx nx ndx ne => ?_)⟩
  have g1 : Good X.K G W σ F1 (if ds.length + dd.length = n then match mi (.ins true c [] []) (ds ++ dd) with
    | .ok .non (.ins _ c' ns xs) => if c' = c then .ok (.obj c ns xs) ρ1 else .stuck
    | .exc x _ => .exc x ρ1
    | _ => .stuck
  else .stuck) (PD X.K Q) := g1
  split at g1
  · rename_i hz
    have fx := S1.sub.none nx
    have sub1 : Sm H1 (upd (upd H1 dx (.own x)) x (.ins (He.ga X.K c) dx [])) := fun b o h => by
      rw [upd_ne (fun z => by subst z; rw [nx] at h; cases h), upd_ne (fun z => by subst z; rw [ndx] at h; cases h)]; exact h
    have key : ∀ {sv : SV} {H' F' : Hp}, AftIo X.K x sv (upd (upd H1 dx (.own x)) x (.ins (He.ga X.K c) dx [])) F1 H' F' → SmT X.K H1 H' ∧ (∀ b o, F' b = some o → F1 b = some o ∨ Nn H1 b) := fun A =>
      ⟨⟨fun b o h n => A.h.k b o (fun z => by subst z; rw [nx] at h; cases h) (sub1 b o h) n, fun x => A.h.t (x.ext sub1)⟩, fun b o h => (A.new b o h).imp id fun z => fun o e => z o (sub1 b o e)⟩
    refine ⟨by rw [List.length_cons, List.length_append, r1.length, (hdd X.K F1).length]; omega, F1, x, vs ++ dvs, .ins true c [] [], ds ++ dd, rfl, ⟨S1.sub.tr sub1, S1.ft, S1.tb.ext sub1⟩, ⟨x, dx, [], rfl, by rw [upd_same]; rfl, rfl, fx, .nil⟩, rfl, r1.append (hdd _ _), ?_⟩
    cases em : mi (.ins true c [] []) (ds ++ dd) with
    | ok d sv =>
      rw [em] at g1
      cases d with
      | non =>
        cases sv with
        | ins pp c' ns xs =>
          have g1 : Good X.K G W σ F1 (if c' = c then R.ok (.obj c ns xs) ρ1 else .stuck) (PD X.K Q) := g1
          split at g1
          · rename_i hc
            subst hc
            intro v H' F' A rv
            cases rv
            refine ⟨rfl, ?_⟩
            obtain ⟨a, dx', ws, e1, e2, e3, e4, rr⟩ := A.at_
            cases e1
            obtain ⟨k1, k2⟩ := key A
            have sF : Sm F' (upd F' x (.ins (He.ga X.K c') dx' (ns.zip ws))) := Sm.updN e4
            refine g1 H' (upd F' x (.ins (He.ga X.K c') dx' (ns.zip ws))) (S1.grow k1 (fun b o h => ?_) (A.f.tr sF) (fun b o h => ?_) ((A.ft S1.ft).upd rfl)) (A.f.tr sF) _ (.obj upd_same rfl e3 (rr.mono sF))
            · by_cases z : b = x
              · subst z; rw [upd_same] at h; cases h; exact e2
              · rw [upd_ne z] at h; exact A.sub b o h
            · by_cases z : b = x
              · subst z; exact .inr (.of nx)
              · rw [upd_ne z] at h; exact k2 b o h
          · exact g1.elim
        | _ => exact g1.elim
      | _ => cases sv <;> exact g1.elim
    | exc xx sv =>
      rw [em] at g1
      intro d H' F' A rv
      obtain ⟨k1, k2⟩ := key A
      exact g1 d H' F' (S1.grow k1 A.sub A.f k2 (A.ft S1.ft)) A.f rv
    | stuck => rw [em] at g1; exact g1.elim
  · exact g1.elim
/-! an own def, called by an operator: it lets nothing out -/
def E0F : XK := fun _ _ _ => False
theorem pass0F : Passes (L2.CX X.prog X.w) X E0F := fun pins σ H s e s' I c => by
  obtain ⟨_, _, _, _, _, _, _, _, _, _, _, _, h⟩ := c
  exact h.elim
theorem goodF0 {G : Ent} {σ : St} {H F : Hp} {ρ : Ro} {r : FR D} {T : VK} (S : Stt X.K G σ H F ρ) (hr : ∀ d, r = .ok d → ∀ v H' F', Stt X.K G σ H' F' ρ → Sm F F' → Rep X.K F' v d → T v H') (h : ∃ d, r = .ok d) : GoodF X.K H F r T E0F := by
  obtain ⟨d, e⟩ := h
  rw [e]
  exact fun v H' F' A rv => hr d e v H' F' (S.aft A) A.f rv
def rOwnIn (C : Addr) (sp : Sp) : R2 := fun x y H Q => ∃ b dx fs, y = .ref b ∧ H b = some (.ins C dx fs) ∧ sp [.ref b, x] H (fun v H' => ∃ r, v = .bl r ∧ Q (.bl r) H') E0F
def rOwnNin (C : Addr) (sp : Sp) : R2 := fun x y H Q => ∃ b dx fs, y = .ref b ∧ H b = some (.ins C dx fs) ∧ sp [.ref b, x] H (fun v H' => ∃ r, v = .bl r ∧ Q (.bl (!r)) H') E0F
theorem op_inOwn {C : Addr} (M : Meth X.K C "__contains__" f) (Fn : FnG X.prog X.w X.K X.mg X.base k f fd ps sp) (hr : RoomG k X.A) (hb : Binds X.K fd ps []) : OpR X (compareOp .In) (rOwnIn C sp) := by
  intro pins s σ H x y v u Q I rx ry h
  obtain ⟨b, dx, fs, rfl, hbb, hs⟩ := h
  cases ry
  obtain ⟨mA, J, _⟩ := ins_get I.hok hbb
  obtain ⟨od, J, _⟩ := J.look
  obtain ⟨m, hF⟩ := I.fr
  refine PySem.W.in_K hF I.ok.mod.kin J M.at_ M.fn (wpAny_mono (run_fnG (us := [.ref b, v]) (vs := [.ref b, x]) Fn hr hb .nil pass0F I (.cons rfl (.cons rx .nil)) hs) (fun r s' q => ?_) fun _ _ z => z)
  obtain ⟨w, H', I', rw_, rr, e, q⟩ := q
  subst e
  cases rw_
  exact wpAny_truthy_bool ⟨.bl rr, H', I', rfl, q⟩
theorem op_ninOwn {C : Addr} (M : Meth X.K C "__contains__" f) (Fn : FnG X.prog X.w X.K X.mg X.base k f fd ps sp) (hr : RoomG k X.A) (hb : Binds X.K fd ps []) : OpR X (compareOp .NotIn) (rOwnNin C sp) := by
  intro pins s σ H x y v u Q I rx ry h
  obtain ⟨b, dx, fs, rfl, hbb, hs⟩ := h
  cases ry
  obtain ⟨mA, J, _⟩ := ins_get I.hok hbb
  obtain ⟨od, J, _⟩ := J.look
  obtain ⟨m, hF⟩ := I.fr
  refine PySem.W.notIn_K hF I.ok.mod.kin J M.at_ M.fn (wpAny_mono (run_fnG (us := [.ref b, v]) (vs := [.ref b, x]) Fn hr hb .nil pass0F I (.cons rfl (.cons rx .nil)) hs) (fun r s' q => ?_) fun _ _ z => z)
  obtain ⟨w, H', I', rw_, rr, e, q⟩ := q
  subst e
  cases rw_
  exact wpAny_truthy_bool ⟨.bl (!rr), H', I', rfl, q⟩
def boolR : FR D → FR D
  | .ok (.bl r) => .ok (.bl r)
  | _ => .stuck
def nboolR : FR D → FR D
  | .ok (.bl r) => .ok (.bl (!r))
  | _ => .stuck
theorem boolR_ok {r : FR D} {d : D} (h : boolR r = .ok d) : ∃ b, r = .ok (.bl b) ∧ d = .bl b := by
  cases r with
  | ok x => cases x with
    | bl b => cases h; exact ⟨b, rfl, rfl⟩
    | _ => cases h
  | _ => cases h
theorem nboolR_ok {r : FR D} {d : D} (h : nboolR r = .ok d) : ∃ b, r = .ok (.bl b) ∧ d = .bl (!b) := by
  cases r with
  | ok x => cases x with
    | bl b => cases h; exact ⟨b, rfl, rfl⟩
    | _ => cases h
  | _ => cases h
theorem boolR_cases (r : FR D) : (∃ b, r = .ok (.bl b)) ∨ boolR r = .stuck ∧ nboolR r = .stuck := by
  cases r with
  | ok x => cases x with
    | bl b => exact .inl ⟨b, rfl⟩
    | _ => exact .inr ⟨rfl, rfl⟩
  | _ => exact .inr ⟨rfl, rfl⟩
/-- a in b; b may be an instance of the class c with an own __contains__ -/
def inO (c : Str) (m : List D → FR D) (a b : D) : FR D := match b with
  | .obj c' ns ds => if c' = c then boolR (m [.obj c' ns ds, a]) else .stuck
  | _ => inD a b
def ninO (c : Str) (m : List D → FR D) (a b : D) : FR D := match b with
  | .obj c' ns ds => if c' = c then nboolR (m [.obj c' ns ds, a]) else .stuck
  | _ => ninD a b
theorem OA.inO (hu : X.A.units + 64 < cLine) (M : Meth X.K (He.ga X.K c) "__contains__" f) (Fn : FnG X.prog X.w X.K X.mg X.base k f fd ps (PSp X.K 2 m)) (hr : RoomG k X.A) (hb : Binds X.K fd ps []) : OA X W (compareOp .In) (inO c m) := by
  obtain ⟨r, p, q⟩ := OA.in_ (X := X) (W := W) hu
  refine ⟨_, p.or (op_inOwn M Fn hr hb), fun G σ H F ρ x y dx dy Q S rx ry hg => ?_⟩
  cases dy with
  | obj c' ns ds =>
    cases ry with
    | @obj a dxx _ _ vs fs _ h1 h2 h3 h4 =>
      have gg : Good X.K G W σ F ((if c' = c then boolR (m [.obj c' ns ds, dx]) else .stuck).lift ρ) (PD X.K Q) := hg
      clear hg
      split at gg
      · rename_i hc
        subst hc
        refine .inr ⟨_, _, _, rfl, S.sub _ _ h1, rfl, F, [.obj c' ns ds, dx], S.pre, .cons (.obj h1 h2 h3 h4) (.cons rx .nil), ?_⟩
        rcases boolR_cases (m [.obj c' ns ds, dx]) with ⟨r, hm⟩ | z
        · rw [hm] at gg
          exact goodF0 S (fun d e v H' F' S' s' rv => by
            rw [hm] at e
            cases e
            cases rv
            exact ⟨r, rfl, gg H' F' S' s' _ (.bl _)⟩) ⟨_, hm⟩
        · first | rw [z.1] at gg | rw [z.2] at gg
          exact gg.elim
      · exact gg.elim
  | _ => exact .inl (q G σ H F ρ x y dx _ Q S rx ry hg)
theorem OA.ninO (hu : X.A.units + 64 < cLine) (M : Meth X.K (He.ga X.K c) "__contains__" f) (Fn : FnG X.prog X.w X.K X.mg X.base k f fd ps (PSp X.K 2 m)) (hr : RoomG k X.A) (hb : Binds X.K fd ps []) : OA X W (compareOp .NotIn) (ninO c m) := by
  obtain ⟨r, p, q⟩ := OA.notIn (X := X) (W := W) hu
  refine ⟨_, p.or (op_ninOwn M Fn hr hb), fun G σ H F ρ x y dx dy Q S rx ry hg => ?_⟩
  cases dy with
  | obj c' ns ds =>
    cases ry with
    | @obj a dxx _ _ vs fs _ h1 h2 h3 h4 =>
      have gg : Good X.K G W σ F ((if c' = c then nboolR (m [.obj c' ns ds, dx]) else .stuck).lift ρ) (PD X.K Q) := hg
      clear hg
      split at gg
      · rename_i hc
        subst hc
        refine .inr ⟨_, _, _, rfl, S.sub _ _ h1, rfl, F, [.obj c' ns ds, dx], S.pre, .cons (.obj h1 h2 h3 h4) (.cons rx .nil), ?_⟩
        rcases boolR_cases (m [.obj c' ns ds, dx]) with ⟨r, hm⟩ | z
        · rw [hm] at gg
          exact goodF0 S (fun d e v H' F' S' s' rv => by
            rw [hm] at e
            cases e
            cases rv
            exact ⟨r, rfl, gg H' F' S' s' _ (.bl _)⟩) ⟨_, hm⟩
        · first | rw [z.1] at gg | rw [z.2] at gg
          exact gg.elim
      · exact gg.elim
  | _ => exact .inl (q G σ H F ρ x y dx _ Q S rx ry hg)
end
end Mr
namespace Mr
open PySem PySem.Spec PyProof.Rows L2
variable [Lam] [Pins]

/-! ### a list of one's own, lent -/
mutual
/-- no list, no instance is in it -/
def noL : D → Bool
  | .non => true
  | .bl _ => true
  | .int _ => true
  | .str _ => true
  | .tup xs => noLs xs
  | .lst _ => false
  | .frz _ => false
  | .obj _ _ ds => noLs ds
  | .dct _ ds => noLs ds
  | .opq _ => true
  | .any => true
def noLs : List D → Bool
  | [] => true
  | x :: xs => noL x && noLs xs
end
mutual
theorem Rep.without {K : PySem.W.Frag} {F F' : Hp} {a : Addr} {vs : List V} (hF : F a = some (.lst vs)) (s : ∀ b o, b ≠ a → F b = some o → F' b = some o) : ∀ {v : V} {d : D}, Rep K F v d → noL d = true → Rep K F' v d
  | _, _, .non, _ => .non
  | _, _, .bl b, _ => .bl b
  | _, _, .int i, _ => .int i
  | _, _, .str x, _ => .str x
  | _, .tup ds, .tup (a := b) h r, e => .tup (h.elim (fun h => .inl (h.elim (fun h => .inl (s _ _ (fun z => by subst z; rw [hF] at h; cases h) h)) fun ⟨o, h⟩ => .inr ⟨o, s _ _ (fun z => by subst z; rw [hF] at h; cases h) h⟩)) .inr) (Reps.without hF s r (by rw [noL] at e; exact e))
  | _, _, .lst _ _, e => by rw [noL] at e; cases e
  | _, _, .frz _ _, e => by rw [noL] at e; cases e
  | _, _, .obj h e1 l r, e => .obj (s _ _ (fun z => by subst z; rw [hF] at h; cases h) h) e1 l (Reps.without hF s r (by rw [noL] at e; exact e))
  | _, _, .dct h l r, e => .dct (s _ _ (fun z => by subst z; rw [hF] at h; cases h) h) l (Reps.without hF s r (by rw [noL] at e; exact e))
  | _, _, .opq v, _ => .opq v
  | _, _, .any v h, _ => .any v h
theorem Reps.without {K : PySem.W.Frag} {F F' : Hp} {a : Addr} {vs : List V} (hF : F a = some (.lst vs)) (s : ∀ b o, b ≠ a → F b = some o → F' b = some o) : ∀ {vs : List V} {ds : List D}, Reps K F vs ds → noLs ds = true → Reps K F' vs ds
  | _, _, .nil, _ => .nil
  | _, _, .cons h r, e => by
    rw [noLs, Bool.and_eq_true] at e
    exact .cons (Rep.without hF s h e.1) (Reps.without hF s r e.2)
end
/-- a slot, seen ahead and behind -/
def okI : SV → SV → Prop
  | _, .un => True
  | .val d, .val e => d = e
  | _, .val _ => False
  | _, .own _ xs => noLs xs = true
  | _, .ins _ _ _ ds => noLs ds = true
  | _, .dic _ _ ds => noLs ds = true
  | _, .pin => True
def pkR (j : Nat) : Nat → Ro → Ro → Prop
  | i, a :: as, b :: bs => (i = j ∨ okI a b) ∧ pkR j (i + 1) as bs
  | _, [], [] => True
  | _, _, _ => False
theorem pkR_at {j : Nat} : ∀ {as bs : Ro} {i : Nat}, pkR j i as bs → as.length = bs.length ∧ ∀ k, i + k ≠ j → okI (as.getD k .un) (bs.getD k .un)
  | [], [], i, _ => ⟨rfl, fun k _ => by simp [okI]⟩
  | a :: as, b :: bs, i, h => by
    obtain ⟨h1, h2⟩ := h
    obtain ⟨l, q⟩ := pkR_at h2
    refine ⟨by simp [l], fun k ne => ?_⟩
    cases k with
    | zero => exact h1.elim (fun e => absurd e ne) id
    | succ k => exact q k (by omega)
  | [], _ :: _, _, h => h.elim
  | _ :: _, [], _, h => h.elim
open Classical in
noncomputable def mPeek (j : Nat) (f : M D) : M D := fun ρ => match ρ.getD j .un with
  | .own false xs => match f (ρ.set j (.val (.lst xs))) with
    | .ok d ρ' => if noL d = true ∧ ρ'.getD j .un = .val (.lst xs) ∧ pkR j 0 ρ ρ' then .ok d (ρ'.set j (.own false xs)) else .stuck
    | _ => .stuck
  | _ => f ρ
section
variable {X : Cx} {W : WX} {K : PySem.W.Frag} {G : Ent} {σ : St} {H F H' F' : Hp} {ρ ρ' : Ro} {e : Expr} {f : M D} {j : Nat} {xs : List D} {a : Addr} {vs : List V}
/-- it is one's own again -/
theorem Stt.unfreeze (S : Stt K G σ H F ρ) (hi : ρ.getD j .un = .own false xs) (e1 : σ[j]? = some (some (V.ref a))) (ha : H a = some (.lst vs)) (fa : F a = none) (r : Reps K F vs xs) (sF : Sm (upd F a (.lst vs)) F')
    (S' : Stt K G σ H' F' ρ') (hj : ρ'.getD j .un = .val (.lst xs)) (hp : pkR j 0 ρ ρ') :
    Stt K G σ H' (fun b => if b = a then none else F' b) (ρ'.set j (.own false xs)) ∧ Sm F (fun b => if b = a then none else F' b) := by
  have fa' : F' a = some (.lst vs) := sF _ _ upd_same
  have s0 : Sm F (fun b => if b = a then none else F' b) := fun b o h => by
    have ne : b ≠ a := fun z => by subst z; rw [fa] at h; cases h
    show (if b = a then none else F' b) = _
    rw [if_neg ne]; exact sF _ _ (by rw [upd_ne ne]; exact h)
  have s1 : ∀ b o, b ≠ a → F' b = some o → (fun b => if b = a then none else F' b) b = some o := fun b o ne h => by
    show (if b = a then none else F' b) = _
    rw [if_neg ne]; exact h
  obtain ⟨len, q⟩ := pkR_at hp
  have jl : j < ρ'.length := by
    rw [S'.len]
    exact (List.getElem?_eq_some_iff.mp e1).1
  have own : (ρ.getD j .un).isOwn = true := by rw [hi]; rfl
  have noio : ∀ b, (j, b) ∉ G.io := fun b z => by
    have := (S.io j b z).2
    rw [hi] at this; cases this
  have h0 : Nn G.H0 a := (S.fresh j a own e1).elim id fun z => absurd z (noio a)
  have notown : ∀ i b, (ρ'.getD i .un).isOwn = true → σ[i]? = some (some (V.ref b)) → b ≠ a := fun i b o h z => by
    obtain ⟨b', u, f1, f2, f3, _⟩ := (S'.at_ i).there o
    rw [h] at f1; cases f1
    subst z
    rw [fa'] at f3; cases f3
  refine ⟨⟨fun b o h => ?_, fun b o h => ?_, S'.tb, S'.same, fun b o h => ?_, fun b o h => ?_, by simp [S'.len], fun i => ?_, fun i k b h1 h2 h3 h4 => ?_, fun i b h1 h2 => ?_, fun i b hb => ?_, fun p hp => ?_, S'.xx, S'.xtd, fun i v hv => ?_⟩, s0⟩
  · by_cases z : b = a
    · subst z; simp at h
    · simp [z] at h; exact S'.sub b o h
  · by_cases z : b = a
    · subst z; simp at h
    · simp [z] at h; exact S'.ft b o h
  · exact s0 b o (S.ext b o h)
  · by_cases z : b = a
    · subst z; simp at h
    · simp [z] at h; exact S'.new b o h
  · rw [getD_set]
    by_cases c : j = i ∧ i < ρ'.length
    · rw [if_pos c, ← c.1]
      exact ⟨a, vs, e1, S'.sub _ _ fa', by simp, r.mono s0⟩
    · rw [if_neg c]
      have ne : i ≠ j := fun z => c ⟨z.symm, z ▸ jl⟩
      have ok := q i (by omega)
      have q0 := S.at_ i
      have q1 := S'.at_ i
      have no := notown i
      cases hs : ρ'.getD i .un with
      | un => trivial
      | val d =>
        rw [hs] at ok
        cases hs0 : ρ.getD i .un with
        | val d0 =>
          rw [hs0] at ok q0
          have ok : d0 = d := ok
          subst ok
          obtain ⟨v, g1, g2⟩ := q0
          exact ⟨v, g1, g2.mono s0⟩
        | _ => rw [hs0] at ok; exact ok.elim
      | own p ys =>
        rw [hs] at ok q1 no
        have ok : noLs ys = true := by cases hs0 : ρ.getD i .un <;> rw [hs0] at ok <;> exact ok
        obtain ⟨b, ws, g1, g2, g3, g4⟩ := q1
        exact ⟨b, ws, g1, g2, by show (if b = a then none else F' b) = none; rw [if_neg (no b rfl g1)]; exact g3, g4.without fa' s1 ok⟩
      | ins p C ns ds =>
        rw [hs] at ok q1 no
        have ok : noLs ds = true := by cases hs0 : ρ.getD i .un <;> rw [hs0] at ok <;> exact ok
        obtain ⟨b, dx, ws, g1, g2, g0, g3, g4⟩ := q1
        exact ⟨b, dx, ws, g1, g2, g0, by show (if b = a then none else F' b) = none; rw [if_neg (no b rfl g1)]; exact g3, g4.without fa' s1 ok⟩
      | dic p ks ds =>
        rw [hs] at ok q1 no
        have ok : noLs ds = true := by cases hs0 : ρ.getD i .un <;> rw [hs0] at ok <;> exact ok
        obtain ⟨b, ws, g1, g2, g0, g3, g4⟩ := q1
        exact ⟨b, ws, g1, g2, g0, by show (if b = a then none else F' b) = none; rw [if_neg (no b rfl g1)]; exact g3, g4.without fa' s1 ok⟩
      | pin => trivial
  · rw [getD_set] at h1 h2
    by_cases c : j = i ∧ i < ρ'.length
    · by_cases c' : j = k ∧ k < ρ'.length
      · rw [← c.1, ← c'.1]
      · rw [if_neg c'] at h2
        rw [← c.1, e1] at h3
        cases h3
        exact absurd rfl (notown k a h2 h4)
    · rw [if_neg c] at h1
      by_cases c' : j = k ∧ k < ρ'.length
      · rw [← c'.1, e1] at h4
        cases h4
        exact absurd rfl (notown i a h1 h3)
      · rw [if_neg c'] at h2
        exact S'.dis i k b h1 h2 h3 h4
  · rw [getD_set] at h1
    by_cases c : j = i ∧ i < ρ'.length
    · rw [← c.1, e1] at h2
      cases h2
      exact .inl h0
    · rw [if_neg c] at h1; exact S'.fresh i b h1 h2
  · have ne : j ≠ i := fun z => noio b (z ▸ hb)
    obtain ⟨f1, f2⟩ := S'.io i b hb
    rw [getD_set, if_neg fun c => ne c.1]
    exact ⟨f1, f2⟩
  · obtain ⟨f1, f2, f3, f4⟩ := S'.xt p hp
    have pa : p.1 ≠ a := fun z => by rw [z, fa'] at f2; cases f2
    refine ⟨f1, by show (if p.1 = a then none else F' p.1) = none; rw [if_neg pa]; exact f2, f3, fun i h1 h2 => ?_⟩
    rw [getD_set] at h1
    by_cases c : j = i ∧ i < ρ'.length
    · rw [← c.1, e1] at h2
      cases h2
      exact pa rfl
    · rw [if_neg c] at h1; exact f4 i h1 h2
  · obtain ⟨x1, x2⟩ := S'.pin i v hv
    have ne : j ≠ i := fun z => by subst z; rw [hj] at x2; cases x2
    rw [getD_set, if_neg fun c => ne c.1]
    exact ⟨x1, x2⟩
open Classical in
theorem AE.peek (j : Nat) (h : AE X W e f) : AE X W e (mPeek j f) := by
  obtain ⟨t, p, q⟩ := h
  refine ⟨t, p, fun G σ H F ρ Q S hg => ?_⟩
  unfold mPeek at hg
  split at hg
  · rename_i xs hi
    obtain ⟨a, vs, e1, ha, fa, r, S1, sF, _⟩ := S.freezeX hi
    refine q G σ H _ _ Q S1 ?_
    cases ef : f (ρ.set j (.val (.lst xs))) with
    | ok d ρ' =>
      rw [ef] at hg
      have hg : Good X.K G W σ F (if noL d = true ∧ ρ'.getD j .un = .val (.lst xs) ∧ pkR j 0 ρ ρ' then R.ok d (ρ'.set j (.own false xs)) else .stuck) (PD X.K Q) := hg
      split at hg
      · rename_i hz
        intro H' F' S' s' v rv
        obtain ⟨S2, s2⟩ := S.unfreeze hi e1 ha fa r s' S' hz.2.1 hz.2.2
        exact hg H' _ S2 s2 v (rv.without (s' _ _ upd_same) (fun b o ne h => by show (if b = a then none else F' b) = _; rw [if_neg ne]; exact h) hz.1)
      · exact hg.elim
    | exc x ρ' => rw [ef] at hg; exact hg.elim
    | stuck => rw [ef] at hg; exact hg.elim
  · exact q G σ H F ρ Q S hg
end
/-! ### more lists of one's own -/
def listN : List D → FR (List D)
  | [.lst xs] => .ok xs
  | [.tup xs] => .ok xs
  | [.frz xs] => .ok xs
  | _ => .stuck
/-- list(e) -/
def mListN (fs : M (List D)) : M (List D) := fun ρ => (fs ρ).bind fun ds ρ => (listN ds).lift ρ
def addN : D → D → FR (List D)
  | .lst xs, .lst ys => if xs.length + ys.length ≤ sizeLine then .ok (xs ++ ys) else .stuck
  | _, _ => .stuck
def mulN : D → D → FR (List D)
  | .lst xs, .int k => if I63 k ∧ xs.length * k.toNat ≤ sizeLine then .ok (List.replicate k.toNat xs).flatten else .stuck
  | _, _ => .stuck
def mBinN (g : D → D → FR (List D)) (a b : M D) : M (List D) := fun ρ => (a ρ).bind fun x ρ => (b ρ).bind fun y ρ => (g x y).lift ρ
/-- x.pop(e) -/
def mPopAt (j : Nat) (fe : M D) : M D := fun ρ => match ρ.getD j .un with
  | .own _ _ => (fe ρ).bind fun v ρ => match ρ.getD j .un, v with
    | .own p xs, .int i => match seqIndex? i xs.length with
      | some k => if I63 i then match xs[k]? with
        | some d => .ok d (ρ.set j (.own p (xs.eraseIdx k)))
        | none => .stuck
        else .stuck
      | none => .stuck
    | _, _ => .stuck
  | _ => .stuck
/-- x.pop() -/
def mPop (j : Nat) : M D := fun ρ => match ρ.getD j .un with
  | .own p xs => match xs[xs.length - 1]? with
    | some d => .ok d (ρ.set j (.own p xs.dropLast))
    | none => .stuck
  | _ => .stuck
/-- x.extend(e) -/
def mExt (j : Nat) (fe : M D) : M D := fun ρ => match ρ.getD j .un with
  | .own _ _ => (fe ρ).bind fun v ρ => match ρ.getD j .un, v with
    | .own p xs, .lst ys => if xs.length + ys.length ≤ sizeLine then .ok .non (ρ.set j (.own p (xs ++ ys))) else .stuck
    | _, _ => .stuck
  | _ => .stuck
theorem reps_erase {K : PySem.W.Frag} {F : Hp} : ∀ {vs : List V} {ds : List D} (k : Nat), Reps K F vs ds → Reps K F (vs.eraseIdx k) (ds.eraseIdx k)
  | _, _, _, .nil => .nil
  | _, _, 0, .cons _ r => r
  | _, _, k + 1, .cons h r => .cons h (reps_erase k r)
theorem reps_dropLast {K : PySem.W.Frag} {F : Hp} : ∀ {vs : List V} {ds : List D}, Reps K F vs ds → Reps K F vs.dropLast ds.dropLast
  | _, _, .nil => .nil
  | _, _, .cons h .nil => .nil
  | _, _, .cons h (.cons h' r) => .cons h (reps_dropLast (.cons h' r))
theorem reps_get {K : PySem.W.Frag} {F : Hp} {vs : List V} {ds : List D} {k : Nat} {d : D} (r : Reps K F vs ds) (h : ds[k]? = some d) : ∃ v, vs[k]? = some v ∧ Rep K F v d := r.get k h
section
variable {X : Cx} {W : WX} {a b e : Expr} {es : List Expr} {fa fb fe : M D} {fs : M (List D)} {pos py : Pos} {y : Str}
theorem newOwn {G : Ent} {σ : St} {H F : Hp} {ρ : Ro} {vs : List V} {ds : List D} {Q : VK} {p : Addr} (S : Stt X.K G σ H F ρ) (r : Reps X.K F vs ds) (g : Good X.K G W σ F (.ok ds ρ) (fun ds ρ' H' F' => ∀ a vs H2, Stt X.K ⟨G.H0, G.F0, G.io, (a, .lst vs) :: G.xt⟩ σ H2 F' ρ' → Reps X.K F' vs ds → Q (.ref a) H2)) (hp : H p = none) :
    Q (.ref p) (upd H p (.lst vs)) := g H F S Sm.refl p vs _ (S.xtNew hp) r
theorem AN.list {px : Pos} (hg : Gl X "list") (hm : X.mg "list" = none) (ha : AA X W (a :: es) fs) (he : starEach (a :: es) X.env = (false, eval a X.env) :: starEach es X.env := by rfl) (hpl : (backTo pos (starEach es X.env)).any (·.1) = false := by rfl) :
    AN X W (.Call (.Name "list" px) (a :: es) [] pos) (mListN fs) := by
  obtain ⟨t, pa, qa⟩ := ha
  refine ⟨_, pe_callTy (T := "list") call_list_of hg hm (by decide +kernel) pa (by decide) (by decide) he hpl, fun G σ H F ρ Q S hgd => qa G σ H F ρ _ S (hgd.bind fun ds ρ1 H1 F1 S1 s1 g1 vs r => ?_)⟩
  unfold listN at g1
  split at g1
  · obtain ⟨v, rfl, rv⟩ := reps1 r
    cases rv with
    | lst hx rx => exact ⟨_, _, rfl, .inl (.of (S1.sub _ _ hx)), fun l hl => newOwn S1 rx g1 hl⟩
  · obtain ⟨v, rfl, rv⟩ := reps1 r
    cases rv with
    | tup hx rx => exact ⟨_, _, rfl, .inr (SqTm S1.sub hx), fun l hl => newOwn S1 rx g1 hl⟩
  · obtain ⟨v, rfl, rv⟩ := reps1 r
    cases rv with
    | frz hx rx => exact ⟨_, _, rfl, .inl (SqLm S1.sub hx), fun l hl => newOwn S1 rx g1 hl⟩
  · exact g1.elim
theorem AN.add (ha : AE X W a fa) (hb : AE X W b fb) : AN X W (.BinOp a .Add b pos) (mBinN addN fa fb) := by
  obtain ⟨ta, pa, qa⟩ := ha
  obtain ⟨tb, pb, qb⟩ := hb
  refine ⟨_, pe_op op_cat pa pb, fun G σ H F ρ Q S hg => qa G σ H F ρ _ S (hg.bind fun dx ρ1 H1 F1 S1 s1 g1 v r1 => qb G σ H1 F1 ρ1 _ S1 (g1.bind fun dy ρ2 H2 F2 S2 s2 g2 u r2 => ?_))⟩
  unfold addN at g2
  split at g2
  · rename_i xs ys
    split at g2
    · rename_i hz
      have r1 := r1.mono s2
      cases r1 with
      | lst hx rx => cases r2 with
        | lst hy ry => exact ⟨_, _, _, _, rfl, rfl, S2.sub _ _ hx, S2.sub _ _ hy, by rw [rx.length, ry.length]; exact hz, fun p hp => newOwn S2 (rx.append ry) g2 hp⟩
    · exact g2.elim
  · exact g2.elim
theorem AN.mul (ha : AE X W a fa) (hb : AE X W b fb) : AN X W (.BinOp a .Mult b pos) (mBinN mulN fa fb) := by
  obtain ⟨ta, pa, qa⟩ := ha
  obtain ⟨tb, pb, qb⟩ := hb
  refine ⟨_, pe_op op_rep pa pb, fun G σ H F ρ Q S hg => qa G σ H F ρ _ S (hg.bind fun dx ρ1 H1 F1 S1 s1 g1 v r1 => qb G σ H1 F1 ρ1 _ S1 (g1.bind fun dy ρ2 H2 F2 S2 s2 g2 u r2 => ?_))⟩
  unfold mulN at g2
  split at g2
  · rename_i xs k
    split at g2
    · rename_i hz
      have r1 := r1.mono s2
      cases r1 with
      | lst hx rx => cases r2 with
        | int => exact ⟨_, k, _, rfl, rfl, S2.sub _ _ hx, hz.1.1, hz.1.2, by rw [rx.length]; exact hz.2, fun p hp => newOwn S2 (reps_rep rx _) g2 hp⟩
    · exact g2.elim
  · exact g2.elim
/-- what is one's own is changed in place by a method -/
theorem own_put {G : Ent} {σ : St} {H1 F1 : Hp} {ρ1 : Ro} {j : Nat} {p : Bool} {xs ys : List D} {a : Addr} {ws us : List V} (S1 : Stt X.K G σ H1 F1 ρ1) (e4 : ρ1.getD j .un = .own p xs) (e1 : σ[j]? = some (some (V.ref a))) (f3 : F1 a = none) (r : Reps X.K F1 us ys) :
    Stt X.K G σ (upd H1 a (.lst us)) F1 (ρ1.set j (.own p ys)) :=
  S1.change (by rw [e4]; rfl) e1 (S1.own_upd (by rw [e4]; rfl) e1) (fun b o h => by
    by_cases eb : b = a
    · subst eb; rw [f3] at h; cases h
    · rw [upd_ne eb]; exact S1.sub b o h) Sm.refl (fun _ _ h => .inl h) S1.ft ⟨a, _, rfl, upd_same, f3, r⟩ rfl (by rw [e4]; rfl)
theorem AE.popAt {j : Nat} {ap cp : Pos} (h0 : PE X (.Name y py) (tVar j)) (ha : AE X W e fe) (hst : starEach [e] X.env = (false, eval e X.env) :: starEach [] X.env := by rfl)
    (hbase : attributeBase (.Name y py) "pop" X.env (eval (.Name y py) X.env) = eval (.Name y py) X.env := by rfl)
    (hfew : ((backTo cp (starEach [e] X.env)).all (fun x => !x.1) && (backToKw cp (keywordEach [] X.env)).all (fun x => x.1.isSome)
      && decide ([e].length + ([] : List Keyword).length + (if ([] : List Keyword).isEmpty then 0 else 1) < 30)) = true := by rfl)
    (hline : (ap.endLine == cp.line) = true := by rfl) (hplain : (backTo cp (starEach [] X.env)).any (·.1) = false := by rfl) :
    AE X W (.Call (.Attribute (.Name y py) "pop" ap) [e] [] cp) (mPopAt j fe) := by
  obtain ⟨t, p, q⟩ := ha
  refine ⟨_, pe_bm PySem.F.plainAttrs_list PySem.F.slot_list_pop PySem.F.type_list_pop mt_popAt h0 (pa_cons p pa_nil hst) hbase hfew hline hst hplain, fun G σ H F ρ Q S hg => ?_⟩
  unfold mPopAt at hg
  split at hg
  · rename_i p0 xs0 e0
    obtain ⟨a, vs, e1, e2, e3, r⟩ := own_at S e0
    refine ⟨_, e1, .inl ⟨rfl, vs, .of e2⟩, q G σ H F ρ _ S (hg.bind fun v ρ1 H1 F1 S1 s1 g1 w rw_ => ?_)⟩
    split at g1
    · rename_i p1 xs i e4
      obtain ⟨a', ws, f1, f2, f3, r'⟩ := own_at S1 e4
      rw [e1] at f1; cases f1
      cases rw_
      split at g1
      · rename_i k hk
        split at g1
        · rename_i hz
          split at g1
          · rename_i d hd
            obtain ⟨u, eu, ru⟩ := reps_get r' hd
            exact ⟨a, ws, i, k, u, rfl, rfl, f2, hz.1, hz.2, by rw [r'.length]; exact hk, eu, g1 _ F1 (own_put (ws := ws) S1 e4 e1 f3 (reps_erase k r')) Sm.refl _ ru⟩
          · exact g1.elim
        · exact g1.elim
      · exact g1.elim
    · exact g1.elim
  · exact hg.elim
theorem AE.ext {j : Nat} {ap cp : Pos} (h0 : PE X (.Name y py) (tVar j)) (ha : AE X W e fe) (hst : starEach [e] X.env = (false, eval e X.env) :: starEach [] X.env := by rfl)
    (hbase : attributeBase (.Name y py) "extend" X.env (eval (.Name y py) X.env) = eval (.Name y py) X.env := by rfl)
    (hfew : ((backTo cp (starEach [e] X.env)).all (fun x => !x.1) && (backToKw cp (keywordEach [] X.env)).all (fun x => x.1.isSome)
      && decide ([e].length + ([] : List Keyword).length + (if ([] : List Keyword).isEmpty then 0 else 1) < 30)) = true := by rfl)
    (hline : (ap.endLine == cp.line) = true := by rfl) (hplain : (backTo cp (starEach [] X.env)).any (·.1) = false := by rfl) :
    AE X W (.Call (.Attribute (.Name y py) "extend" ap) [e] [] cp) (mExt j fe) := by
  obtain ⟨t, p, q⟩ := ha
  refine ⟨_, pe_bm PySem.F.plainAttrs_list PySem.F.slot_list_extend PySem.F.type_list_extend mt_extend h0 (pa_cons p pa_nil hst) hbase hfew hline hst hplain, fun G σ H F ρ Q S hg => ?_⟩
  unfold mExt at hg
  split at hg
  · rename_i p0 xs0 e0
    obtain ⟨a, vs, e1, e2, e3, r⟩ := own_at S e0
    refine ⟨_, e1, .inl ⟨rfl, vs, .of e2⟩, q G σ H F ρ _ S (hg.bind fun v ρ1 H1 F1 S1 s1 g1 w rw_ => ?_)⟩
    split at g1
    · rename_i p1 xs ys e4
      obtain ⟨a', ws, f1, f2, f3, r'⟩ := own_at S1 e4
      rw [e1] at f1; cases f1
      split at g1
      · rename_i hz
        cases rw_ with
        | lst hy ry => exact ⟨a, _, ws, _, rfl, rfl, f2, S1.sub _ _ hy, by rw [r'.length, ry.length]; exact hz, g1 _ F1 (own_put (ws := ws) S1 e4 e1 f3 (r'.append ry)) Sm.refl _ .non⟩
      · exact g1.elim
    · exact g1.elim
  · exact hg.elim
end
end Mr
/-! Mr11: enumerate over a tuple, a list that stands still. -/
namespace Mr
open PySem PySem.Spec PyProof.Rows L2
variable [Lam] [Pins]
theorem enum_new1 {v : Value} {o : Obj} {J : Heap → Prop} (B : Begins v o J) :
    Meets (Builtin.«enumerate.__new__» ⟨[.type "enumerate", v], []⟩) (fun _ R s => J s.heap ∧
      R (.ok (.ret (.ref (s.heap.push o).objs.size))) { s with heap := (s.heap.push o).push { cls := .type "enumerate", data := .fields #[.none, .bool false, .ref s.heap.objs.size, rawInt 0, .none, .none] } }) :=
  .of_wp fun prog w A R s hh => by
    obtain ⟨hp, g, d, tk, os⟩ := s
    obtain ⟨hj, hr⟩ := hh
    have subE := sub_enumerate
    have it1 : ∀ {A1 : Around} {E1 : Value → Shared → Prop} {Q1 : Value → Shared → Prop}, Q1 (.ref hp.objs.size) ⟨hp.push o, g, d, tk, os⟩ → wpAny (model prog w) A1 (pyIter v) Q1 E1 ⟨hp, g, d, tk, os⟩ :=
      fun q => B.iter prog w _ _ ⟨hp, g, d, tk, os⟩ _ hj q
    wp_walk using it1
    refine wpAny_stack_any fun st => wpAny_pure ?_
    split
    · rename_i c _ _ _ _ _
      cases (c == Value.type "enumerate") <;>
        (wp_walk using it1
         exact ⟨_, rfl, hr⟩)
    · wp_walk using it1
      exact ⟨_, rfl, hr⟩
theorem enum_call1 {prog : Program} {w : World} {A : Around} {E : Value → Shared → Prop} {s : Shared} {v : Value} {o : Obj} {J : Heap → Prop} {Q : Value → Shared → Prop} (B : Begins v o J) (hj : J s.heap)
    (hq : ∀ h', IsEnum h' (s.heap.objs.size + 1) s.heap.objs.size 0 .none → h'.get? s.heap.objs.size = some o → h'.objs.size = s.heap.objs.size + 2 →
      (∀ b u, s.heap.get? b = some u → h'.get? b = some u) → Q (.ref (s.heap.objs.size + 1)) { s with heap := h' }) :
    wpAny (model prog w) A (call (.type "enumerate") [v]) Q E s := by
  refine callType_new F.called_enumerate (by decide) (F.typeCall_enumerate_1 _) (F.newCall_enumerate_1 _) (fun obj => F.args_object_init_2 obj _) F.entry_enumerate_new (enum_new1 B) ⟨hj, ?_⟩
  obtain ⟨z, hz⟩ : ∃ z, z = (s.heap.push o).objs.size := ⟨_, rfl⟩
  have ez : z = s.heap.objs.size + 1 := hz.trans (Heap.size_push ..)
  show _ ∧ _
  rw [← hz]
  have he : ∀ e : Obj, e.isFreed = false → ((s.heap.push o).push e).get? z = some e := fun e f => hz ▸ Heap.get?_push_size (s.heap.push o) f
  have h1 : IsEnum ((s.heap.push o).push { cls := .type "enumerate", data := .fields #[.none, .bool false, .ref s.heap.objs.size, rawInt 0, .none, .none] }) z s.heap.objs.size 0 .none := he _ rfl
  refine ⟨⟨_, h1, rfl⟩, ?_⟩
  rw [ez] at h1 ⊢
  exact hq _ h1 (Heap.get?_push_of_some _ (Heap.get?_push_size _ B.free)) (by rw [Heap.size_push, ← hz, ez]) fun b u q => Heap.get?_push_of_some _ (Heap.get?_push_of_some _ q)
/-- the tuple at a, each item in a new pair with its index -/
def IteT (K : PySem.W.Frag) (a : Addr) : It :=
  ⟨fun i H => ∃ (xs : List V) (x : V), SqT K H a xs ∧ xs[i]? = some x,
    fun i H v H' => ∃ T x, v = .ref T ∧ H T = none ∧ H' = upd H T (.tup [.int (i : Nat), x]) ∧ ∀ xs, SqT K H a xs → xs[i]? = some x,
    fun i H => ∃ xs : List V, SqT K H a xs ∧ xs.length ≤ i⟩
theorem turn_enumT {P : Program} {w : World} {K : PySem.W.Frag} {elts : List Expr} {kk : Nat} {tpos : Pos} (a e it : Addr) :
    Turn P w K (.Tuple elts kk tpos) (IteT K a) [e, it] e (fun i h => (∃ old, IsEnum h e it ((i : Nat) : Int) old) ∧ h.IsTupleIter it a i ∧ e ≠ it ∧ a ≠ it ∧ a ≠ e) where
  mem := by simp
  obj := fun i h st b hb => by
    obtain ⟨⟨old, he⟩, ⟨o, ho, hc, hd⟩, _⟩ := st
    rcases (by simpa using hb : b = e ∨ b = it) with rfl | rfl
    · exact ⟨_, he, fun v q => nomatch q⟩
    · exact ⟨o, ho, fun v q => by rw [hd] at q; cases q⟩
  keep := fun i h h' st k => let ⟨⟨old, he⟩, hi, r⟩ := st; ⟨⟨old, k e (by simp) _ he⟩, hi.at fun o q => k it (by simp) o q, r⟩
  item := by
    intro X hP hw hK hc i pins s σ H E I hf st hg
    subst hP hw hK
    obtain ⟨⟨old, he⟩, hit, ne1, ne2, ne3⟩ := st
    obtain ⟨xs, x, hq, hx⟩ := hg
    obtain ⟨its, rv, p, hz⟩ := I.tuple hq
    obtain ⟨u, hu, ru⟩ := rv.get hx
    have le : e < s.heap.objs.size := Heap.lt_size he
    have li : it < s.heap.objs.size := by obtain ⟨_, q, _⟩ := hit; exact Heap.lt_size q
    have hi : i < its.toArray.size := by
      have := (List.getElem?_eq_some_iff.mp hu).1
      simpa using this
    have D := Draws.tuple (prog := X.prog) (w := X.w) (A := X.A.in1) (by simpa using I.ok.hd hc) it a ne2 its.toArray
    refine wpAny_pyNext_enum_itemD D he ⟨hit, p⟩ hi ne1 (by simp [ne1, Ne.symm ne3]) fun y h' tk hy ho hs' hT hsz hk => ?_
    have ey : y = u := by
      have : its[i]? = some y := by simpa using hy
      rw [hu] at this; cases this; rfl
    subst ey
    refine ⟨_, rfl, wpAny_letOwnedTupleGo_enum (s := { s with heap := h', toks := tk + 1 }) ho fun h'' he' sb => ?_⟩
    have hT2 : h''.get? s.heap.objs.size = some { cls := .type "tuple", data := .seq #[.int i tk, y] } := (sb.2 _ (Nat.ne_of_gt le)).trans hT
    have new : ObjOk X.prog X.w (upd H s.heap.objs.size (.tup [.int (i : Nat), x])) h'' s.heap.objs.size (.tup [.int (i : Nat), x]) :=
      ⟨by show 2 ≤ sizeLine; decide, [.int i tk, y], .cons ⟨_, rfl⟩ (.cons ru .nil), ⟨_, hT2, rfl, _, rfl⟩⟩
    have J : Inv X pins σ (upd H s.heap.objs.size (.tup [.int (i : Nat), x])) { s with heap := h'', toks := tk + 1 } :=
      I.turnedNew (ch := [e, it]) (fun b ob hb q => (sb.2 b (fun z => hb (by simp [z]))).trans (hk b ob (fun z => hb (by simp [z])) (fun z => hb (by simp [z])) q)) hf (Nat.le_refl _) new
    refine ⟨.ref s.heap.objs.size, _, J, rfl, ⟨_, x, rfl, I.hok.fresh (Nat.le_refl _), rfl, fun ys hy => ?_⟩, ⟨⟨y, ?_⟩, hs'.1.at fun o q => (sb.2 it (Ne.symm ne1)).trans q, ne1, ne2, ne3⟩, fun b hb => ?_⟩
    · have e1 := I.tuple_inj hy hq
      rw [e1]; exact hx
    · rw [show ((i + 1 : Nat) : Int) = (i : Int) + 1 by omega]; exact he'
    · have lb : b < s.heap.objs.size := by
        rcases (by simpa using hb : b = e ∨ b = it) with rfl | rfl
        · exact le
        · exact li
      rw [upd_ne (Nat.ne_of_lt lb)]
      exact (hf b hb).1
  done := by
    intro X hP hw hK hc i pins s σ H E I hf st hg
    subst hP hw hK
    obtain ⟨⟨old, he⟩, hit, ne1, ne2, ne3⟩ := st
    obtain ⟨xs, hq, hx⟩ := hg
    obtain ⟨its, rv, p, hz⟩ := I.tuple hq
    obtain ⟨f0, f1, f2, f3, f4, f5⟩ := hf it (by simp)
    have hl := rv.length
    have hh : X.A.in1.handled = none := by simpa using I.ok.hd hc
    have D : Draws X.prog X.w X.A.in1 it [it, a] i (fun _ _ => True) (fun j h => j = i ∧ h.IsTupleIter it a i ∧ h.IsTuple a its.toArray) :=
      { live := fun j h st => let ⟨_, ⟨o, ho, _⟩, _⟩ := st; ⟨o, ho⟩
        frame := fun j h h' st k => ⟨st.1, st.2.1.at fun o q => k it (by simp) o q, st.2.2.at fun o q => k a (by simp) o q⟩
        item := fun j s Q E hj st _ => absurd st.1 (by omega)
        done := fun s Q E st hE => wpAny_nextOf_tuple_end hh st.2.1 st.2.2 (by simp; omega) hE }
    exact wpAny_pyNext_enum_endD D he ⟨rfl, hit, p⟩ fun h' eb => ⟨rfl, I.turned (t' := s.toks) (fun b o hb q => eb b o hb q) f0 f1 f3 f4 f5⟩
  self := fun A i s Q E st h => let ⟨⟨_, he⟩, _⟩ := st; wpAny_pyIter_enum he h
/-- what enumerate gives -/
def enumL (xs : List D) : List D := (List.range xs.length).zipWith (fun (i : Nat) x => .tup [.int i, x]) xs
def enumD : List D → FR (List D)
  | [.lst xs] => .ok (enumL xs)
  | [.frz xs] => .ok (enumL xs)
  | [.tup xs] => .ok (enumL xs)
  | _ => .stuck
section
variable {X : Cx} {W : WX}
def iEnumA (K : PySem.W.Frag) (ta : TA) : TI := fun σ H R => ta σ H fun vs H1 => ∃ a xs, vs = [.ref a] ∧ ((SqL K H1 a xs ∧ R (Ite K a) H1) ∨ (SqT K H1 a xs ∧ R (IteT K a) H1))
theorem pi_enumA {e : Expr} {ta : TA} {p pos tpos : Pos} {elts : List Expr} {kk : Nat} (hg : Gl X "enumerate") (hm : X.mg "enumerate" = none) (ha : PA X [e] ta) (hs : starEach [e] X.env = [(false, eval e X.env)] := by rfl) :
    PI X (.Tuple elts kk tpos) (.Call (.Name "enumerate" p) [e] [] pos) (iEnumA X.K ta) := by
  refine ⟨fun pins s σ H R I h => Call_ (ld_blt I hg hm boot_enumerate (PyProof.Rows.callWith_type1 (thn (ha.run pos pins s σ H _ I h) fun us s1 ⟨vs, H1, I1, r1, q1⟩ => ?_) hs rfl))⟩
  obtain ⟨a, xs, ex, q⟩ := q1
  subst ex
  cases r1 with
  | cons r rr =>
    cases rr
    cases r
    have fresh : ∀ b : Addr, b = s1.heap.objs.size + 1 ∨ b = s1.heap.objs.size → s1.heap.objs.size ≤ b := fun b z => by rcases z with z | z <;> rw [z] <;> first | exact Nat.le_refl _ | exact Nat.le_succ _
    rcases q with ⟨hq, q⟩ | ⟨hq, q⟩
    · obtain ⟨its, rv, p', hz⟩ := I1.list hq
      refine call_enumerate_list p'.isList fun h' he hit hsz hk => wpAny_pyIter_enum he ?_
      have I2 : Inv X pins σ H1 { s1 with heap := h' } := I1.kept (t' := s1.toks) hk
      exact ⟨s1.heap.objs.size + 1, [s1.heap.objs.size + 1, s1.heap.objs.size], _, _, H1, rfl, I2, turn_enum a (s1.heap.objs.size + 1) s1.heap.objs.size, ⟨⟨.none, he⟩, hit, Nat.succ_ne_self _⟩,
        fun b hb => I1.fpOk (fresh b (by simpa using hb)) (I1.hok.fresh (fresh b (by simpa using hb))), q⟩
    · obtain ⟨its, rv, p', hz⟩ := I1.tuple hq
      have la : a < s1.heap.objs.size := by obtain ⟨_, q, _⟩ := p'; exact Heap.lt_size q
      refine enum_call1 (begins_tuple a its.toArray) p' fun h' he hit hsz hk => wpAny_pyIter_enum he ?_
      have I2 : Inv X pins σ H1 { s1 with heap := h' } := I1.kept (t' := s1.toks) hk
      exact ⟨s1.heap.objs.size + 1, [s1.heap.objs.size + 1, s1.heap.objs.size], _, _, H1, rfl, I2, turn_enumT a (s1.heap.objs.size + 1) s1.heap.objs.size,
        ⟨⟨.none, he⟩, ⟨_, hit, rfl, rfl⟩, Nat.succ_ne_self _, Nat.ne_of_lt la, Nat.ne_of_lt (Nat.lt_succ_of_lt la)⟩,
        fun b hb => I1.fpOk (fresh b (by simpa using hb)) (I1.hok.fresh (fresh b (by simpa using hb))), q⟩
theorem enumL_get {xs : List D} {i : Nat} {d : D} (h : (enumL xs)[i]? = some d) : ∃ x, xs[i]? = some x ∧ d = .tup [.int (i : Nat), x] := by
  obtain ⟨j, x, e1, e2, e3⟩ := zip_get h
  rw [List.getElem?_range (List.getElem?_eq_some_iff.mp e2).1] at e1
  cases e1
  exact ⟨x, e2, e3⟩
theorem enumL_len {xs : List D} : (enumL xs).length = xs.length := by unfold enumL; simp
theorem okE {K : PySem.W.Frag} {F : Hp} {a : Addr} {vs : List V} {ds : List D} (h : SqL K F a vs) (r : Reps K F vs ds) : ItOk K (Ite K a) F (enumL ds) := fun i H F' s1 s2 => by
  have h1 := SqLm (s1.tr s2) h
  refine ⟨fun hi => ⟨vs, h1, by rw [r.length]; rw [enumL_len] at hi; exact Nat.le_of_eq hi⟩, fun d hd => ?_⟩
  obtain ⟨x, e1, rfl⟩ := enumL_get hd
  obtain ⟨v, f1, rv⟩ := r.get i e1
  refine ⟨⟨vs, v, h1, f1⟩, fun z H' ⟨T, x', ez, hT, eH, k1⟩ => ?_⟩
  cases (k1 vs h1).symm.trans f1
  subst ez eH
  exact ⟨upd F' T (.tup [.int (i : Nat), v]), .tup s2 hT, .tup (.of upd_same) (.cons (.int _) (.cons (rv.mono (s1.tr (Sm.updN (s2.none hT)))) .nil))⟩
theorem okET {K : PySem.W.Frag} {F : Hp} {a : Addr} {vs : List V} {ds : List D} (h : SqT K F a vs) (r : Reps K F vs ds) : ItOk K (IteT K a) F (enumL ds) := fun i H F' s1 s2 => by
  have h1 := SqTm (s1.tr s2) h
  refine ⟨fun hi => ⟨vs, h1, by rw [r.length]; rw [enumL_len] at hi; exact Nat.le_of_eq hi⟩, fun d hd => ?_⟩
  obtain ⟨x, e1, rfl⟩ := enumL_get hd
  obtain ⟨v, f1, rv⟩ := r.get i e1
  refine ⟨⟨vs, v, h1, f1⟩, fun z H' ⟨T, x', ez, hT, eH, k1⟩ => ?_⟩
  cases (k1 vs h1).symm.trans f1
  subst ez eH
  exact ⟨upd F' T (.tup [.int (i : Nat), v]), .tup s2 hT, .tup (.of upd_same) (.cons (.int _) (.cons (rv.mono (s1.tr (Sm.updN (s2.none hT)))) .nil))⟩
theorem AI.enum {e : Expr} {fs : M (List D)} {p pos tpos : Pos} {elts : List Expr} {kk : Nat} (hg : Gl X "enumerate") (hm : X.mg "enumerate" = none) (ha : AA X W [e] fs) (hs : starEach [e] X.env = [(false, eval e X.env)] := by rfl) :
    AI X W (.Tuple elts kk tpos) (.Call (.Name "enumerate" p) [e] [] pos) (mItL enumD fs) := by
  obtain ⟨t, pa, qa⟩ := ha
  refine ⟨_, pi_enumA hg hm pa hs, fun G σ H F ρ R S hgd => qa G σ H F ρ _ S (hgd.bind fun ds ρ1 H1 F1 S1 s1 g1 vs r1 => ?_)⟩
  unfold enumD at g1
  split at g1
  · obtain ⟨v, rfl, rv⟩ := reps1 r1
    cases rv with
    | lst hx rx => exact ⟨_, _, rfl, .inl ⟨.of (S1.sub _ _ hx), g1 H1 F1 S1 Sm.refl _ (okE (.of hx) rx)⟩⟩
  · obtain ⟨v, rfl, rv⟩ := reps1 r1
    cases rv with
    | frz hx rx => exact ⟨_, _, rfl, .inl ⟨SqLm S1.sub hx, g1 H1 F1 S1 Sm.refl _ (okE hx rx)⟩⟩
  · obtain ⟨v, rfl, rv⟩ := reps1 r1
    cases rv with
    | tup hx rx => exact ⟨_, _, rfl, .inr ⟨SqTm S1.sub hx, g1 H1 F1 S1 Sm.refl _ (okET hx rx)⟩⟩
  · exact g1.elim
end
end Mr
/-! Mr12: stars, properties, methods, isinstance of one's own classes, dicts as values, reprs. -/
namespace Mr
open PySem PySem.Spec PyProof.Rows L2
variable [Lam] [Pins]
section
variable {X : Cx} {W : WX} {e o : Expr} {es : List Expr} {fe : M D} {fs : M (List D)} {p pos apos : Pos} {k : Nat}
/-- *e, .. -/
def itemsD : D → FR (List D)
  | .tup xs => .ok xs
  | .lst xs => .ok xs
  | .frz xs => .ok xs
  | _ => .stuck
def mStar (fe : M D) (fs : M (List D)) : M (List D) := fun ρ => (fe ρ).bind fun d ρ => ((itemsD d).lift ρ).bind fun xs ρ => (fs ρ).bind fun ys ρ => .ok (xs ++ ys) ρ
theorem AA.star (he : AE X W e fe) (hr : AA X W es fs) (hs : starEach (.Starred e p :: es) X.env = (true, eval e X.env) :: starEach es X.env := by rfl) : AA X W (.Starred e p :: es) (mStar fe fs) := by
  obtain ⟨t, pe, qe⟩ := he
  obtain ⟨u, pa, qa⟩ := hr
  refine ⟨_, StX.pa_star pe pa hs, fun G σ H F ρ Q S hg => qe G σ H F ρ _ S (hg.bind fun d ρ1 H1 F1 S1 s1 g1 v r1 => ?_)⟩
  have go : ∀ (a : Addr) (xs : List V) (ds : List D), v = .ref a → (SqT X.K H1 a xs ∨ SqL X.K H1 a xs) → Reps X.K F1 xs ds → itemsD d = .ok ds → ∃ p xs, v = V.ref p ∧ (SqT X.K H1 p xs ∨ SqL X.K H1 p xs) ∧ u σ H1 fun ys H2 => Q (xs ++ ys) H2 := fun a xs ds ev hx rx ed => by
    rw [ed] at g1
    have g1 : Good X.K G W σ F1 ((fs ρ1).bind fun ys ρ => .ok (ds ++ ys) ρ) (PL X.K Q) := g1
    exact ⟨a, xs, ev, hx, qa G σ H1 F1 ρ1 _ S1 (g1.bind fun ys ρ2 H2 F2 S2 s2 g2 ws r2 => g2 H2 F2 S2 Sm.refl _ ((rx.mono s2).append r2))⟩
  cases r1 with
  | tup hx rx => exact go _ _ _ rfl (.inl (SqTm S1.sub hx)) rx rfl
  | lst hx rx => exact go _ _ _ rfl (.inr (.of (S1.sub _ _ hx))) rx rfl
  | frz hx rx => exact go _ _ _ rfl (.inr (SqLm S1.sub hx)) rx rfl
  | _ => exact g1.elim

/-! ### properties -/
/-- the class c has f as a property whose getter does m -/
structure PropG (X : Cx) (k : Nat) (c f : Str) (m : List D → FR D) : Prop where
  cl : Cls X.K (He.ga X.K c)
  ex : ∃ p g fd ps, PropOf X.K (He.ga X.K c) f p g ∧ FnG X.prog X.w X.K X.mg X.base k g fd ps (PSp X.K 1 m) ∧ Binds X.K fd ps []
def noxF : FR D → FR D
  | .ok d => .ok d
  | _ => .stuck
/-- what an instance's class does with it -/
def clsD (cs : List (Str × (List D → FR D))) : D → FR D
  | .obj c ns ds => match cs.lookup c with
    | some m => noxF (m [.obj c ns ds])
    | none => .stuck
  | _ => .stuck
theorem prop_get {pins : List (Addr × Obj)} {σ : L2.St} {H : Hp} {s : Shared} {Q : VK} {b : Bool} {E' : Value → Shared → Prop} {C pp g a dx : Addr} {fs : List (Str × V)} {f : Str} {fd : FuncData} {ps : List Str} {sp : Sp} (I : Inv X pins σ H s) (ea : H a = some (.ins C dx fs)) (c : Cls X.K C) (hp : PropOf X.K C f pp g)
    (F : FnG X.prog X.w X.K X.mg X.base k g fd ps sp) (hr : RoomG (k + 1) X.A) (hb : Binds X.K fd ps []) (h : sp [.ref a] H Q E0F) :
    wpAny (model X.prog X.w) X.A (getAttr (.ref a) f b) (EP X pins σ Q) E' s := by
  obtain ⟨mA, O, _⟩ := ins_get I.hok ea
  obtain ⟨od, J, _⟩ := O.look
  obtain ⟨rest, hrec⟩ := hp.rec_
  have I1 := I.tok (s.toks + 1)
  have hl : ([Value.ref a] ++ ([] : List Value)).length = ps.length := F.len _ _ _ _ h
  have hc : (PySem.W.clsIn X.K C).isSome = true := by
    obtain ⟨cd, hc, _⟩ := PySem.W.any_some c.hd
    rw [hc]; rfl
  have room : RoomG k X.A.in1 := ⟨hr.r.in1, hr.g⟩
  refine PySem.W.get_bind I.kIn J (PySem.W.plainGet_of (c.get f)).1 (PySem.W.findObj_data hc hp.at_ hp.get hp.tak) (PySem.W.plainGet_of (c.get f)).2 (wpAny_call (PySem.W.prop_get (s := { s with toks := s.toks + 1 }) I.kIn hrec ?_))
  refine codeAny_mono (F.run X.A.in1 X.stack { s with toks := s.toks + 1 } H ⟨[.ref a], []⟩ ([Value.ref a] ++ []) [V.ref a] Q E0F room I1.env0.in1 (hb _ [.ref a] I1.kIn hl) (.cons rfl .nil) h) fun r s2 q => ?_
  match r, q with
  | .error er, q => obtain ⟨_, _, _, _, _, _, _, _, _, _, _, _, z⟩ := q; exact z.elim
  | .ok (.ret u), q =>
    obtain ⟨v, H', I3, rv, q3⟩ := I1.after q
    show wpAny _ _ (handedOut u) _ _ _
    rw [PySem.W.handedOut_of (handed_of rv)]
    exact wpAny_pure ⟨v, H', I3, rv, q3⟩
  | .ok .next, q => exact False.elim q
  | .ok .brk, q => exact False.elim q
  | .ok .cont, q => exact False.elim q
def tPropG (X : Cx) (k : Nat) (f : Str) (ta : TE) : TE := fun σ H Q => ta σ H fun x H1 => ∃ c m a dx fs, PropG X k c f m ∧ x = .ref a ∧ H1 a = some (.ins (He.ga X.K c) dx fs) ∧ PSp X.K 1 m [.ref a] H1 Q E0F
theorem pe_propG {ta : TE} {f : Str} (he : PE X e ta) (hr : RoomG (k + 1) X.A) (hab : attributeBase e f X.env (eval e X.env) = eval e X.env) : PE X (.Attribute e f pos) (tPropG X k f ta) := by
  refine ⟨fun pins s σ H Q I h => attr_of hab (thn (he.run pins s σ H _ I h) fun u s1 ⟨x, H1, I1, rx, c, m, a, dx, fs, P, ex, ea, q⟩ => ?_)⟩
  subst ex
  obtain rfl : u = Value.ref a := rx
  obtain ⟨p, g, fd, ps, po, F, hb⟩ := P.ex
  exact prop_get I1 ea P.cl po F hr hb q
theorem noxF_ok {r : FR D} {K : PySem.W.Frag} {G : Ent} {σ : L2.St} {H F : Hp} {ρ : Ro} {Q : VK} (S : Stt K G σ H F ρ) (g : Good K G W σ F ((noxF r).lift ρ) (PD K Q)) : GoodF K H F r Q E0F := by
  cases r with
  | ok d => exact fun v H' F' A rv => g H' F' (S.aft A) A.f v rv
  | exc x => exact g.elim
  | stuck => exact g
theorem lookup_mem {α : Type} {c : Str} {m : α} : ∀ {cs : List (Str × α)}, cs.lookup c = some m → (c, m) ∈ cs
  | [], em => by cases em
  | (c', m') :: r, em => by
    rw [List.lookup_cons] at em
    split at em
    · rename_i hc
      cases em
      rw [beq_iff_eq.mp hc]; exact List.mem_cons_self ..
    · exact List.mem_cons_of_mem _ (lookup_mem em)
theorem AE.prop {f : Str} {cs : List (Str × (List D → FR D))} (he : AE X W e fe) (hp : ∀ q ∈ cs, PropG X k q.1 f q.2) (hr : RoomG (k + 1) X.A) (hab : attributeBase e f X.env (eval e X.env) = eval e X.env) : AE X W (.Attribute e f pos) (m1 (clsD cs) fe) := by
  obtain ⟨t, pe, qe⟩ := he
  refine ⟨_, pe_propG pe hr hab, fun G σ H F ρ Q S hg => qe G σ H F ρ _ S (hg.bind fun d ρ1 H1 F1 S1 s1 g1 v r1 => ?_)⟩
  cases r1 with
  | obj h1 h2 h3 h4 =>
    rename_i c ns vs fs' ds
    unfold clsD at g1
    cases em : cs.lookup c with
    | none => simp only [em] at g1; exact g1.elim
    | some m =>
      simp only [em] at g1
      have hm := lookup_mem em
      exact ⟨c, m, _, _, _, hp _ hm, rfl, S1.sub _ _ h1, rfl, F1, [.obj c ns ds], S1.pre, .cons (.obj h1 h2 h3 h4) .nil, noxF_ok S1 g1⟩
  | _ => exact g1.elim
/-! ### methods -/
/-- the class c has a method f that does m -/
structure MethG (X : Cx) (k n : Nat) (c f : Str) (m : List D → FR D) : Prop where
  cl : Cls X.K (He.ga X.K c)
  ex : ∃ g fd ps, Meth X.K (He.ga X.K c) f g ∧ FnG X.prog X.w X.K X.mg X.base k g fd ps (PSp X.K n m) ∧ Binds X.K fd ps []
def methOf (cs : List (Str × (List D → FR D))) (f : Str) : D → Option (List D → FR D)
  | .obj c ns _ => if f ∈ ns then none else cs.lookup c
  | _ => none
def mMeth (cs : List (Str × (List D → FR D))) (f : Str) (n : Nat) (fe : M D) (fs : M (List D)) : M D := fun ρ => (fe ρ).bind fun d ρ => match methOf cs f d with
  | some m => (fs ρ).bind fun ds ρ => (if ds.length + 1 = n then m (d :: ds) else .stuck).lift ρ
  | none => .stuck
theorem methOf_obj {cs : List (Str × (List D → FR D))} {f : Str} {d : D} {m : List D → FR D} (h : methOf cs f d = some m) : ∃ c ns ds, d = .obj c ns ds ∧ f ∉ ns ∧ (c, m) ∈ cs := by
  unfold methOf at h
  split at h
  · split at h
    · cases h
    · rename_i hn; exact ⟨_, _, _, rfl, hn, lookup_mem h⟩
  · cases h
theorem zip_none {f : Str} : ∀ {ns : List Str} {vs : List V}, f ∉ ns → (ns.zip vs).lookup f = none
  | [], _, _ => rfl
  | _ :: _, [], _ => rfl
  | n :: ns, v :: vs, h => by
    rw [List.zip_cons_cons, List.lookup_cons]
    have nb : (f == n) = false := by
      have : f ≠ n := fun z => h (by rw [z]; exact List.mem_cons_self ..)
      simp [this]
    rw [nb]
    exact zip_none fun z => h (List.mem_cons_of_mem _ z)
def tMethG (X : Cx) (W : WX) (k n : Nat) (f : Str) (ta : TE) (t : TA) : TE := fun σ H Q => ta σ H fun x H1 => ∃ a c dx fs, x = .ref a ∧ H1 a = some (.ins (He.ga X.K c) dx fs) ∧ fs.lookup f = none ∧ (∃ m, MethG X k n c f m) ∧
  t σ H1 fun vs H2 => ∃ m, MethG X k n c f m ∧ PSp X.K n m (x :: vs) H2 Q (WE W σ)
theorem pe_methG {ta : TE} {t : TA} {m : Str} {n : Nat} {pl : Sem Bool} (he : PE X o ta) (hr : RoomG k X.A) (tk : Takes X W) (ha : PA X (e :: es) t)
    (hst : starEach (e :: es) X.env = (false, eval e X.env) :: starEach es X.env := by rfl) (hpl : (backTo pos (starEach es X.env)).any (·.1) = false := by rfl)
    (ht : eval (.Call (.Attribute o m apos) (e :: es) [] pos) X.env = (do
      let ov ← eval o X.env
      standAt apos.atName
      let (f, first) ← holding [ov] (getMethod ov m pl)
      callWith pos f first (backTo pos (starEach (e :: es) X.env)) (backToKw pos (keywordEach [] X.env))) := by rfl) :
    PE X (.Call (.Attribute o m apos) (e :: es) [] pos) (tMethG X W k n m ta t) := by
  refine ⟨fun pins s σ H Q I h => PySem.W.methodCall_KW (pl := pl) (thn (he.run pins s σ H _ I h) fun u s1 ⟨x, H1, I1, rx, a, c, dx, fs, ex, ea, l, ⟨m0, G0⟩, q⟩ => ?_) ht⟩
  subst ex
  obtain rfl : u = Value.ref a := rx
  obtain ⟨g, fd, ps, hm, F0, hb0⟩ := G0.ex
  refine getmeth_ok I1 ea G0.cl hm l (PySem.W.callWith_K (first := [.ref a]) (h₀ := X.base) I.ok.mod.kin hm.kp (thn (ha.run pos pins s1 σ H1 _ I1 q) fun us s2 ⟨vs, H2, I2, r, m1, G1, q2⟩ => ⟨I2.kIn, ?_⟩) hst hpl)
  obtain ⟨g1, fd1, ps1, hm1, F1, hb1⟩ := G1.ex
  have eg : g1 = g := by
    have h1 := hm1.at_
    rw [hm.at_] at h1
    cases h1; rfl
  subst eg
  have q3 : PSp X.K n m1 ((.ref a :: vs) ++ []) H2 Q (WE W σ) := by rw [List.append_nil]; exact q2
  exact run_fnW (us := .ref a :: us) (vs := .ref a :: vs) F1 hr hb1 .nil tk I2 (.cons rfl r) q3
theorem AE.meth {m : Str} {n : Nat} {cs : List (Str × (List D → FR D))} {pl : Sem Bool} (he : AE X W o fe) (hp : ∀ q ∈ cs, MethG X k n q.1 m q.2) (hr : RoomG k X.A) (tk : Takes X W) (ha : AA X W (e :: es) fs)
    (hst : starEach (e :: es) X.env = (false, eval e X.env) :: starEach es X.env := by rfl) (hpl : (backTo pos (starEach es X.env)).any (·.1) = false := by rfl)
    (ht : eval (.Call (.Attribute o m apos) (e :: es) [] pos) X.env = (do
      let ov ← eval o X.env
      standAt apos.atName
      let (f, first) ← holding [ov] (getMethod ov m pl)
      callWith pos f first (backTo pos (starEach (e :: es) X.env)) (backToKw pos (keywordEach [] X.env))) := by rfl) :
    AE X W (.Call (.Attribute o m apos) (e :: es) [] pos) (mMeth cs m n fe fs) := by
  obtain ⟨t, pe, qe⟩ := he
  obtain ⟨u, pa, qa⟩ := ha
  refine ⟨_, pe_methG (W := W) (n := n) pe hr tk pa hst hpl ht, fun G σ H F ρ Q S hg => qe G σ H F ρ _ S (hg.bind fun d ρ1 H1 F1 S1 s1 g1 v r1 => ?_)⟩
  cases em : methOf cs m d with
  | none => simp only [em] at g1; exact g1.elim
  | some mm =>
    simp only [em] at g1
    obtain ⟨c, ns, ds, rfl, hn, hc⟩ := methOf_obj em
    cases r1 with
    | obj h1 h2 h3 h4 =>
      refine ⟨_, c, _, _, rfl, S1.sub _ _ h1, by rw [h2]; exact zip_none hn, ⟨mm, hp _ hc⟩, qa G σ H1 F1 ρ1 _ S1 (g1.bind fun es2 ρ3 H3 F3 S3 s3 g3 ws r3 => ?_)⟩
      have g3 : Good X.K G W σ F3 ((if es2.length + 1 = n then mm (.obj c ns ds :: es2) else FR.stuck).lift ρ3) (PD X.K Q) := g3
      split at g3
      · rename_i hl
        exact ⟨mm, hp _ hc, by rw [List.length_cons, r3.length]; exact hl, F3, .obj c ns ds :: es2, S3.pre, .cons (.obj (s3 _ _ h1) h2 h3 (h4.mono s3)) r3, aftGood S3 g3⟩
      · exact g3.elim
end
end Mr
/-! Mr13: isinstance of one's own classes, reprs, dicts as values. -/
namespace Mr
open PySem PySem.Spec PyProof.Rows L2
variable [Lam] [Pins]
/-! ### isinstance of one's own class -/
/-- what the text says of the class U -/
structure IsiF (K : PySem.W.Frag) (U : Str) : Prop where
  cl : Cls K (He.ga K U)
  ha : PySem.W.findIn K (.ref (He.ga K U)) "__class__" = some (some (.builtin "object.__class__"))
  hn : PySem.W.specialIn K (.builtin "object.__class__") "__get__" = some (some (.builtin "getset_descriptor.__get__"))
  ht : PySem.W.takesIn K (.builtin "object.__class__") = some true
  hm : PySem.W.mroIn K (He.ga K U) (.type "object") = some true
  ty : ∀ t ∈ (["NoneType", "bool", "int", "str", "tuple", "list", "dict"] : List String), PySem.W.kitOne K (.type t) (.ref (He.ga K U)) = some false
def isiB (K : PySem.W.Frag) (U : Str) : Bool := He.eqO (PySem.W.findIn K (.ref (He.ga K U)) "__class__") (some (some (.builtin "object.__class__"))) &&
  (He.eqO (PySem.W.specialIn K (.builtin "object.__class__") "__get__") (some (some (.builtin "getset_descriptor.__get__"))) && (decide (PySem.W.takesIn K (.builtin "object.__class__") = some true) &&
  (decide (PySem.W.mroIn K (He.ga K U) (.type "object") = some true) && (["NoneType", "bool", "int", "str", "tuple", "list", "dict"] : List String).all fun t => decide (PySem.W.kitOne K (.type t) (.ref (He.ga K U)) = some false))))
theorem isiB_ok {K : PySem.W.Frag} {U : Str} (c : Cls K (He.ga K U)) (h : isiB K U = true) : IsiF K U := by
  obtain ⟨h1, h⟩ := He.ba h
  obtain ⟨h2, h⟩ := He.ba h
  obtain ⟨h3, h⟩ := He.ba h
  obtain ⟨h4, h5⟩ := He.ba h
  exact ⟨c, He.eqO_ok h1, He.eqO_ok h2, of_decide_eq_true h3, of_decide_eq_true h4, fun t ht => of_decide_eq_true (List.all_eq_true.mp h5 t ht)⟩
def isiOD (U : Str) : D → FR D
  | .obj c _ _ => if c = U then .ok (.bl true) else .stuck
  | .non => .ok (.bl false)
  | .bl _ => .ok (.bl false)
  | .int _ => .ok (.bl false)
  | .str _ => .ok (.bl false)
  | .tup _ => .ok (.bl false)
  | .lst _ => .ok (.bl false)
  | .dct _ _ => .ok (.bl false)
  | _ => .stuck
section
variable {X : Cx} {W : WX} {e : Expr} {fe : M D} {p p2 pos : Pos}
theorem AE.isiO {U : Str} (hU : IsiF X.K U) (hg : Gl X "isinstance") (hm : X.mg "isinstance" = none) (gU : Gl X U) (mU : X.mg U = some (.ref (He.ga X.K U))) (he : AE X W e fe) (hdb : (U == ("__debug__" : Str)) = false := by decide)
    (h1 : starEach [e, .Name U p2] X.env = (false, eval e X.env) :: starEach [.Name U p2] X.env := by rfl) (hpl : (backTo pos (starEach [.Name U p2] X.env)).any (·.1) = false := by rfl)
    (h2 : starEach [.Name U p2] X.env = (false, eval (.Name U p2) X.env) :: starEach [] X.env := by rfl) :
    AE X W (.Call (.Name "isinstance" p) [e, .Name U p2] [] pos) (m1 (isiOD U) fe) := by
  obtain ⟨t, pe, qe⟩ := he
  refine ⟨_, pe_callB call_isi hg hm (by decide +kernel) (pa_cons pe (pa_cons (pe_glob (v := .ref (He.ga X.K U)) gU mU rfl hdb) pa_nil h2) h1) (by decide) (by decide) h1 hpl, fun G σ H F ρ Q S hgd => qe G σ H F ρ _ S (hgd.bind fun d ρ1 H1 F1 S1 s1 g1 v r1 => ?_)⟩
  have fin : ∀ (T : Value) (b : Bool), TyX X.K H1 v T → PySem.W.kitOne X.K T (.ref (He.ga X.K U)) = some b → isiOD U d = .ok (.bl b) → rIsi X.K [v, V.ref (He.ga X.K U)] H1 Q := fun T b ty kit ed => by
    rw [ed] at g1
    exact ⟨v, .ref (He.ga X.K U), T, _, b, rfl, .own _, ty, kit, g1 H1 F1 S1 Sm.refl _ (.bl b)⟩
  have ft : ∀ t : String, t ∈ (["NoneType", "bool", "int", "str", "tuple", "list", "dict"] : List String) → TyX X.K H1 v (.type t) → isiOD U d = .ok (.bl false) → rIsi X.K [v, V.ref (He.ga X.K U)] H1 Q := fun t ht ty ed => fin _ _ ty (hU.ty t ht) ed
  cases r1 with
  | obj e1 e2 e3 e4 =>
    rename_i a dx c ns vs fs ds
    have g2 : Good X.K G W σ F1 ((if c = U then FR.ok (D.bl true) else FR.stuck).lift ρ1) (PD X.K Q) := g1
    split at g2
    · rename_i hc
      subst hc
      exact fin _ true (.base (.ins (S1.sub _ _ e1) hU.cl hU.ha hU.hn hU.ht hU.hm)) (by unfold PySem.W.kitOne; rw [if_pos (by simp)]) (if_pos rfl)
    · exact g2.elim
  | non => exact ft "NoneType" (by simp) (.base .non) rfl
  | bl b => exact ft "bool" (by simp) (.base (.bl b)) rfl
  | int i => exact ft "int" (by simp) (.base (.int i)) rfl
  | str x => exact ft "str" (by simp) (.base (.str x)) rfl
  | tup hx rx => exact ft "tuple" (by simp) ((tyx_of (.tup hx rx) rfl : TyX X.K F1 _ _) |> fun _ => tyx_of (Rep.mono S1.sub (.tup hx rx)) rfl) rfl
  | lst hx rx => exact ft "list" (by simp) (.base (.lst (S1.sub _ _ hx))) rfl
  | dct hx l rx => exact ft "dict" (by simp) (.base (.dK (S1.sub _ _ hx))) rfl
  | _ => exact g1.elim
end
/-! ### repr -/
def reprD : List D → FR D
  | [d] => if okD 12 d = true ∧ (py d).showable = true ∧ (py d).shown.length ≤ sizeLine then .ok (.str (py d).shown) else .stuck
  | _ => .stuck
mutual
theorem okD_noDict : ∀ (n : Nat) (d : D), okD n d = true → (py d).hasDict = false
  | _, .non, _ => rfl
  | _, .bl _, _ => rfl
  | _, .int _, _ => rfl
  | _, .str _, _ => rfl
  | 0, .tup xs, h => by simp [okD] at h
  | n + 1, .tup xs, h => by simpa [py, PyData.hasDict] using okDs_noDict n xs (by simpa [okD] using h)
  | 0, .lst xs, h => by simp [okD] at h
  | n + 1, .lst xs, h => by simpa [py, PyData.hasDict] using okDs_noDict n xs (by simpa [okD] using h)
  | 0, .frz xs, h => by simp [okD] at h
  | n + 1, .frz xs, h => by simpa [py, PyData.hasDict] using okDs_noDict n xs (by simpa [okD] using h)
  | _, .obj _ _ _, h => by simp [okD] at h
  | _, .dct _ _, h => by simp [okD] at h
  | _, .opq _, h => by simp [okD] at h
  | _, .any, h => by simp [okD] at h
theorem okDs_noDict : ∀ (n : Nat) (ds : List D), okDs n ds = true → PyData.hasDictAll (pys ds) = false
  | _, [], _ => rfl
  | n, x :: xs, h => by
    rw [okDs, Bool.and_eq_true] at h
    simp [pys, PyData.hasDictAll, okD_noDict n x h.1, okDs_noDict n xs h.2]
end
def rRepr (K : PySem.W.Frag) : List V → Hp → VK → Prop := fun vs H Q => ∃ v d, vs = [v] ∧ Dp K H v d ∧ d.hasDict = false ∧ d.showable = true ∧ d.depth ≤ 12 ∧ d.shown.length ≤ sizeLine ∧ Q (.str d.shown) H
theorem call_repr {X : Cx} (hg : X.A.guards = some []) (hu : X.A.units + 64 < cLine) : CallR X (.builtin "repr") (rRepr X.K) := by
  intro pins s σ H xs us Q I r h
  obtain ⟨v, d, rfl, hd, nd, sd, dd, ld, q⟩ := h
  obtain ⟨u, rfl, ru⟩ : ∃ u, us = [u] ∧ RelV v u := by
    cases r with
    | cons r1 rr => cases rr; exact ⟨_, rfl, r1⟩
  obtain ⟨as, rd⟩ := Dp.reads I d v u hd ru
  have fin : ∀ (h' : Heap) (t : Tok) (tk : Nat), (∀ b o, s.heap.get? b = some o → h'.get? b = some o) → EP X pins σ Q (.str d.shown t) { s with heap := h', toks := tk } := fun h' t tk k =>
    ⟨.str d.shown, H, I.kept (t' := tk) k, ⟨t, rfl⟩, q⟩
  cases u with
  | ref a => exact repr_of_reads' rd sd (fun z => by rw [nd] at z; cases z) hg (by omega) (fun b o e => e) (fun h' t tk k => fin h' t tk k) ld
  | none =>
    cases rd
    exact PySem.P.repr_of_none (fin s.heap _ _ fun _ _ e => e)
  | bool b =>
    cases rd
    refine PySem.P.repr_of_bool ?_
    have := fin s.heap s.toks (s.toks + 1) fun _ _ e => e
    rwa [PyData.shown_bool] at this
  | int i t =>
    cases rd
    refine PySem.P.repr_of_int (by simpa [PyData.showable] using sd) ?_
    have := fin s.heap s.toks (s.toks + 1) fun _ _ e => e
    rwa [PyData.shown_int] at this
  | str x t =>
    cases rd
    rw [PyData.shown_str] at ld
    refine PySem.P.repr_of_str ?_ ld
    have := fin s.heap s.toks (s.toks + 1) fun _ _ e => e
    rwa [PyData.shown_str] at this
  | _ => cases rd
section
variable {X : Cx} {W : WX}
theorem CA.repr (hg : X.A.guards = some []) (hu : X.A.units + 64 < cLine) : CA X W (.builtin "repr") reprD := by
  refine ⟨_, call_repr hg hu, fun G σ H F ρ vs ds Q S r hgd => ?_⟩
  unfold reprD at hgd
  split at hgd
  · rename_i d
    obtain ⟨v, rfl, rv⟩ := reps1 r
    split at hgd
    · rename_i hz
      obtain ⟨h1, h2, h3⟩ := hz
      exact ⟨v, py d, rfl, rep_dp 12 (rv.mono S.sub) h1, okD_noDict 12 d h1, h2, (okD_py 12 d h1).2, h3, hgd H F S Sm.refl _ (.str _)⟩
    · exact hgd.elim
  · exact hgd.elim
end
end Mr
/-! Mr14: dicts that stand still. -/
namespace Mr
open PySem PySem.Spec PyProof.Rows L2
variable [Lam] [Pins]
theorem put_new {kvs : List (Key × V)} {k : Key} {v : V} (h : k ∉ kvs.map (·.1)) : putK kvs k v = kvs ++ [(k, v)] := by
  unfold putK
  rw [if_neg]
  intro z
  obtain ⟨q, hq, e⟩ := List.any_eq_true.mp z
  exact h (List.mem_map.mpr ⟨q, hq, of_decide_eq_true e⟩)
theorem merge_nodup : ∀ (more kvs : List (Key × V)), ((kvs ++ more).map (·.1)).Nodup → mergeK kvs more = kvs ++ more
  | [], kvs, _ => by simp [mergeK]
  | (k, v) :: r, kvs, h => by
    have hk : k ∉ kvs.map (·.1) := fun z => by
      rw [List.map_append, List.map_cons] at h
      exact (List.nodup_append.mp h).2.2 k z k (List.mem_cons_self ..) rfl
    show mergeK (putK kvs k v) r = _
    rw [put_new hk, merge_nodup r (kvs ++ [(k, v)]) (by simpa using h)]
    simp
section
variable {X : Cx} {W : WX} {pos : Pos}
/-- a display's pairs: its keys are written texts -/
def AP (X : Cx) (W : WX) (pos : Pos) (keys : List (Option Expr)) (es : List Expr) (ks : List Key) (f : M (List D)) : Prop := ∃ trs, PPs X pos keys es trs ∧ keys.length = ks.length ∧ es.length = ks.length ∧ keys.all (·.isSome) = true ∧
  ∀ G σ H F ρ Q, Stt X.K G σ H F ρ → Good X.K G W σ F (f ρ) (fun ds _ H' F' => ∀ vs, Reps X.K F' vs ds → Q ((ks.zip vs).map fun kv => (kV kv.1, kv.2)) H' ∧ vs.length = ks.length) → tPairs trs σ H Q
theorem AP.nil : AP X W pos [] [] [] mNil := ⟨_, pps_nil, rfl, rfl, rfl, fun G σ H F ρ Q S hg => (hg H F S Sm.refl [] .nil).1⟩
theorem AP.cons {x : Str} {j : Nat} {kp : Pos} {e : Expr} {es : List Expr} {keys : List (Option Expr)} {ks : List Key} {fe : M D} {fs : M (List D)} (he : AE X W e fe) (hr : AP X W pos keys es ks fs) :
    AP X W pos (some (.Constant (.str x) j kp) :: keys) (e :: es) (.inr x :: ks) (mCons fe fs) := by
  obtain ⟨t, pe, qe⟩ := he
  obtain ⟨trs, pp, l1, l2, l3, qp⟩ := hr
  refine ⟨_, pps_cons pe_str pe pp, by simp [l1], by simp [l2], by simpa using l3, fun G σ H F ρ Q S hg => ?_⟩
  refine qe G σ H F ρ _ S (hg.bind fun d ρ1 H1 F1 S1 s1 g1 v r1 => ?_)
  refine qp G σ H1 F1 ρ1 _ S1 (g1.bind fun ds ρ2 H2 F2 S2 s2 g2 vs r2 => ?_)
  obtain ⟨q, l⟩ := g2 H2 F2 S2 Sm.refl (v :: vs) (.cons (r1.mono s2) r2)
  exact ⟨q, by simpa using l⟩
def mDict (ks : List Key) (fs : M (List D)) : M D := fun ρ => (fs ρ).bind fun ds ρ => if ds.length = ks.length then .ok (.dct ks ds) ρ else .stuck
theorem AE.dict {keys : List (Option Expr)} {es : List Expr} {ks : List Key} {fs : M (List D)} (hp : AP X W pos keys es ks fs) (hn : ks.Nodup) (h0 : keys ≠ []) (h15 : keys.length ≤ 15) : AE X W (.Dict keys es pos) (mDict ks fs) := by
  obtain ⟨trs, pp, l1, l2, l3, qp⟩ := hp
  refine ⟨_, pe_disp pp l3 (l1.trans l2.symm) h0 h15, fun G σ H F ρ Q S hg p np => ?_⟩
  have S0 : Stt X.K ⟨G.H0, G.F0, G.io, (p, .dK []) :: G.xt⟩ σ (upd H p (.dK [])) F ρ := S.xtNew np
  refine qp _ σ _ F ρ _ S0 ?_
  have hg : Good X.K G W σ F ((fs ρ).bind fun ds ρ => if ds.length = ks.length then .ok (.dct ks ds) ρ else .stuck) (PD X.K Q) := hg
  cases ef : fs ρ with
  | stuck => rw [ef] at hg; exact hg.elim
  | exc x ρ1 =>
    rw [ef] at hg
    exact fun d H' F' S1 s1 x1 => hg d H' (upd F' p (.dK [])) (S1.xtFreeze).1 (s1.tr S1.xtFreeze.2) (by
      rcases x1 with x1 | ⟨dd, vs, e1, e2, e3⟩
      · exact .inl x1
      · exact .inr ⟨dd, vs, e1, S1.xtFreeze.2 _ _ e2, e3.mono S1.xtFreeze.2⟩)
  | ok ds ρ1 =>
    rw [ef] at hg
    have hg : Good X.K G W σ F (if ds.length = ks.length then R.ok (D.dct ks ds) ρ1 else .stuck) (PD X.K Q) := hg
    split at hg
    · rename_i hl
      intro H' F' S1 s1 vs rv
      have lv : vs.length = ks.length := rv.length.trans hl
      refine ⟨⟨(S1.xt (p, .dK []) (List.mem_cons_self ..)).1, ks.zip vs, rfl, by rw [List.length_zip]; omega, ?_⟩, lv⟩
      have em : mergeK [] (ks.zip vs) = ks.zip vs := by
        rw [merge_nodup _ [] (by rw [List.nil_append, List.map_fst_zip (by omega)]; exact hn)]; rfl
      rw [em]
      have S2 := S1.xtUpd (o' := .dK (ks.zip vs))
      have S3 := S2.xtFreeze
      exact hg _ _ S3.1 (s1.tr S3.2) _ (.dct upd_same lv.symm (rv.mono S3.2))
    · exact hg.elim
/-! ### d[k] -/
def keyD : D → Option Key
  | .int i => some (.inl i)
  | .str x => some (.inr x)
  | _ => none
def findK : List Key → List D → Key → Option D
  | k :: ks, d :: ds, x => if k = x then some d else findK ks ds x
  | _, _, _ => none
def dgetD (a b : D) : FR D := match a with
  | .dct ks ds => match keyD b with
    | some k => match findK ks ds k with
      | some d => .ok d
      | none => .stuck
    | none => .stuck
  | _ => .stuck
theorem findK_rep {K : PySem.W.Frag} {H : Hp} {k : Key} {d : D} : ∀ {ks : List Key} {vs : List V} {ds : List D}, Reps K H vs ds → findK ks ds k = some d → ∃ v, valV (ks.zip vs) k = some v ∧ Rep K H v d
  | [], _, _, _, h => by cases h
  | _ :: _, _, _, .nil, h => by cases h
  | q :: ks, _, _, .cons (v := v) (vs := vs) r t, h => by
    unfold findK at h
    split at h
    · rename_i e
      cases h
      exact ⟨v, valV_pos (r := ks.zip vs) (p := (q, v)) e, r⟩
    · rename_i e
      obtain ⟨u, e1, e2⟩ := findK_rep t h
      exact ⟨u, by rw [List.zip_cons_cons, valV_neg e]; exact e1, e2⟩
theorem keyD_v {K : PySem.W.Frag} {H : Hp} {v : V} {d : D} {k : Key} (r : Rep K H v d) (h : keyD d = some k) : v = kV k := by
  cases r <;> cases h <;> rfl
theorem AE.dget {a b : Expr} {fa fb : M D} (hu : X.A.units + 64 < cLine) (ha : AE X W a fa) (hb : AE X W b fb) (hs : NoSl b) : AE X W (.Subscript a b pos) (m2 dgetD fa fb) := by
  obtain ⟨t, p, q⟩ := ha
  obtain ⟨u, p', q'⟩ := hb
  refine ⟨_, pe_dget (by omega) p p' hs, fun G σ H F ρ Q S hg => q G σ H F ρ _ S (hg.bind fun x ρ1 H1 F1 S1 s1 g1 v r1 => q' G σ H1 F1 ρ1 _ S1 (g1.bind fun y ρ2 H2 F2 S2 s2 g2 w r2 => ?_))⟩
  have r1 := r1.mono s2
  unfold dgetD at g2
  cases r1 with
  | dct h1 h2 h3 =>
      rename_i a0 ks vs0 ds
      cases ek : keyD y with
      | none => simp only [ek] at g2; exact g2.elim
      | some k =>
        simp only [ek] at g2
        cases ef : findK ks ds k with
        | none => simp only [ef] at g2; exact g2.elim
        | some d =>
          simp only [ef] at g2
          obtain ⟨z, e1, e2⟩ := findK_rep h3 ef
          have ev := keyD_v r2 ek
          subst ev
          exact ⟨_, z, rfl, e1 ▸ DGet.k (S2.sub _ _ h1), g2 H2 F2 S2 Sm.refl _ e2⟩
  | _ => exact g2.elim
end
end Mr
/-! Mr15: dict comprehensions. -/
namespace Mr
open PySem PySem.Spec PyProof.Rows L2
variable [Lam] [Pins]
/-- a pair put into a dict -/
def hasK (k : Key) (ks : List Key) : Bool := ks.any fun q => decide (q = k)
def setKs (k : Key) (ks : List Key) : List Key := if hasK k ks = true then ks else ks ++ [k]
def setVs {α : Type} (k : Key) (y : α) (ks : List Key) (ds : List α) : List α := if hasK k ks = true then ks.zipWith (fun q d => if q = k then y else d) ds else ds ++ [y]
theorem any_mem {k : Key} : ∀ {ks : List Key} {vs : List V}, ks.length = vs.length → ((ks.zip vs).any fun kv => decide (kv.1 = k)) = hasK k ks
  | [], _, _ => rfl
  | _ :: _, [], l => by cases l
  | q :: ks, v :: vs, l => by
    have ih := any_mem (k := k) (ks := ks) (vs := vs) (by simpa using l)
    unfold hasK at *
    rw [List.zip_cons_cons, List.any_cons, List.any_cons, ih]
theorem zip_map_if {k : Key} {v : V} : ∀ {ks : List Key} {vs : List V}, ((ks.zip vs).map fun kv => if kv.1 = k then (kv.1, v) else kv) = ks.zip (ks.zipWith (fun q d => if q = k then v else d) vs)
  | [], _ => rfl
  | _ :: _, [] => rfl
  | q :: ks, u :: vs => by
    rw [List.zip_cons_cons, List.map_cons, zip_map_if, List.zipWith_cons_cons, List.zip_cons_cons]
    congr 1
    by_cases h : q = k
    · rw [if_pos h, if_pos h]
    · rw [if_neg h, if_neg h]
theorem put_zip {k : Key} {v : V} {ks : List Key} {vs : List V} (l : ks.length = vs.length) : putK (ks.zip vs) k v = (setKs k ks).zip (setVs k v ks vs) := by
  unfold putK setKs setVs
  rw [any_mem l]
  by_cases h : hasK k ks = true
  · rw [if_pos h, if_pos h, if_pos h, zip_map_if]
  · rw [if_neg h, if_neg h, if_neg h, List.zip_append l]
    rfl
theorem set_len {α : Type} {k : Key} {v : α} {ks : List Key} {vs : List α} (l : ks.length = vs.length) : (setKs k ks).length = (setVs k v ks vs).length := by
  unfold setKs setVs
  split
  · rw [List.length_zipWith]; omega
  · simp [l]
theorem reps_zipW {K : PySem.W.Frag} {H : Hp} {k : Key} {v : V} {d : D} (r : Rep K H v d) : ∀ {ks : List Key} {vs : List V} {ds : List D}, Reps K H vs ds → Reps K H (ks.zipWith (fun q d => if q = k then v else d) vs) (ks.zipWith (fun q x => if q = k then d else x) ds)
  | [], _, _, _ => .nil
  | _ :: _, _, _, .nil => .nil
  | q :: ks, _, _, .cons a t => by
    rw [List.zipWith_cons_cons, List.zipWith_cons_cons]
    refine .cons ?_ (reps_zipW r t)
    by_cases h : q = k
    · rw [if_pos h, if_pos h]; exact r
    · rw [if_neg h, if_neg h]; exact a
theorem set_reps {K : PySem.W.Frag} {H : Hp} {k : Key} {v : V} {d : D} {ks : List Key} {vs : List V} {ds : List D} (r : Rep K H v d) (t : Reps K H vs ds) : Reps K H (setVs k v ks vs) (setVs k d ks ds) := by
  unfold setVs
  split
  · exact reps_zipW r t
  · exact t.append (.cons r .nil)
def dcM (vs : List Nat) (t : Tg) (c : M Bool) (kx vx : M D) : List D → List Key → List D → Ro → R (List Key × List D)
  | [], ks, acc, ρ => .ok (ks, acc) ρ
  | d :: ds, ks, acc, ρ => if plainR ρ vs = true then (putT t d (wipeR ρ vs)).bind fun _ ρ1 => (c ρ1).bind fun b ρ2 =>
      if b = true then (kx ρ2).bind fun y ρ3 => (vx ρ3).bind fun z ρ4 => match keyD y with
        | some k => if ks.length < sizeLine ∧ freeR ρ4 vs = true then dcM vs t c kx vx ds (setKs k ks) (setVs k z ks acc) (backR ρ ρ4 vs) else .stuck
        | none => .stuck
      else if freeR ρ2 vs = true then dcM vs t c kx vx ds ks acc (backR ρ ρ2 vs) else .stuck
    else .stuck
def mDc (it : M (List D)) (vs : List Nat) (t : Tg) (c : M Bool) (kx vx : M D) : M D := fun ρ => (it ρ).bind fun ds ρ => ((dcM vs t c kx vx ds [] [] ρ).nox).bind fun p ρ => .ok (.dct p.1 p.2) ρ
section
variable {X : Cx} {W : WX} {ke ve tg iter c : Expr} {ifs : List Expr} {scope : Scope} {own : List (Str × Nat)} {pos : Pos} {it : M (List D)} {t : Tg} {tc : M Bool} {kx vx : M D}
theorem AE.dc (hc : X.calm = true) (hN : X.N.Nodup) (hi : AI X W tg iter it) (ok : BlkOk X.N X.env.scope scope own) (hsl : ∀ i ∈ slT t, i ∈ own.map (·.2))
    (hg : ∀ s H C cl fp, AG (blkX X scope s H C cl fp) tg t) (ht : ∀ s H C cl fp, ATs (blkX X scope s H C cl fp) W0 ifs tc) (hk : ∀ s H C cl fp, AE (blkX X scope s H C cl fp) W0 ke kx) (he : ∀ s H C cl fp, AE (blkX X scope s H C cl fp) W0 ve vx)
    (hs : ∀ x, foldedSetIterable iter X.env x = pure x := by intro _; rfl) : AE X W (.DictComp ke ve [⟨tg, iter, ifs, 0⟩] scope pos) (mDc it (own.map (·.2)) t tc kx vx) := by
  obtain ⟨wi, pi, qi⟩ := hi
  let g : TG := fun v σ H Q => ∀ s H0 C cl fp, (Classical.choose (hg s H0 C cl fp)) v σ H Q
  let tt : TT := fun σ H Q => ∀ s H0 C cl fp, (Classical.choose (ht s H0 C cl fp)) σ H Q
  let tk : TE := fun σ H Q => ∀ s H0 C cl fp, (Classical.choose (hk s H0 C cl fp)) σ H Q
  let te : TE := fun σ H Q => ∀ s H0 C cl fp, (Classical.choose (he s H0 C cl fp)) σ H Q
  have pg : ∀ s H C cl fp, PG (blkX X scope s H C cl fp) tg g := fun s H C cl fp => ⟨fun pins s1 σ H1 v u Q I r h => (Classical.choose_spec (hg s H C cl fp)).1.run pins s1 σ H1 v u Q I r (h s H C cl fp)⟩
  have pt : ∀ s H C cl fp, PTs (blkX X scope s H C cl fp) ifs tt := fun s H C cl fp => ⟨fun pins s1 σ H1 Q I h => (Classical.choose_spec (ht s H C cl fp)).1.run pins s1 σ H1 Q I (h s H C cl fp)⟩
  have pk : ∀ s H C cl fp, PE (blkX X scope s H C cl fp) ke tk := fun s H C cl fp => ⟨fun pins s1 σ H1 Q I h => (Classical.choose_spec (hk s H C cl fp)).1.run pins s1 σ H1 Q I (h s H C cl fp)⟩
  have pe : ∀ s H C cl fp, PE (blkX X scope s H C cl fp) ve te := fun s H C cl fp => ⟨fun pins s1 σ H1 Q I h => (Classical.choose_spec (he s H C cl fp)).1.run pins s1 σ H1 Q I (h s H C cl fp)⟩
  have qg : ∀ G σ H F ρ v d Q, Stt X.K G σ H F ρ → Rep X.K F v d → GoodT X.K G F σ (slT t) (putT t d ρ) Q → g v σ H Q := fun G σ H F ρ v d Q S r h s H0 C cl fp => (Classical.choose_spec (hg s H0 C cl fp)).2 G σ H F ρ v d Q S r h
  have qt : ∀ G σ H F ρ Q, Stt X.K G σ H F ρ → Good X.K G W0 σ F (tc ρ) (PB Q) → tt σ H Q := fun G σ H F ρ Q S h s H0 C cl fp => (Classical.choose_spec (ht s H0 C cl fp)).2 G σ H F ρ Q S h
  have qk : ∀ G σ H F ρ Q, Stt X.K G σ H F ρ → Good X.K G W0 σ F (kx ρ) (PD X.K Q) → tk σ H Q := fun G σ H F ρ Q S h s H0 C cl fp => (Classical.choose_spec (hk s H0 C cl fp)).2 G σ H F ρ Q S h
  have qe : ∀ G σ H F ρ Q, Stt X.K G σ H F ρ → Good X.K G W0 σ F (vx ρ) (PD X.K Q) → te σ H Q := fun G σ H F ρ Q S h s H0 C cl fp => (Classical.choose_spec (he s H0 C cl fp)).2 G σ H F ρ Q S h
  refine ⟨_, pe_dc hc hN pi ok pg pt pk pe hs, fun G σ H F ρ Q S hgd => qi G σ H F ρ _ S (hgd.bind fun ds ρ1 H1 F1 S1 s1 g1 J hJ Da hDa => ?_)⟩
  generalize hvs : own.map (·.2) = vs at hsl g1 ⊢
  let GX : List (Key × V) → Ent := fun ws => ⟨G.H0, G.F0, G.io, (Da, .dK ws) :: G.xt⟩
  let Fin : Hp → R (List Key × List D) → Prop := fun F' r => Good X.K G W σ F' (r.nox.bind fun p ρ => .ok (.dct p.1 p.2) ρ) (PD X.K Q)
  have mono : ∀ {F' F2 : Hp} {r : R (List Key × List D)}, Sm F' F2 → Fin F' r → Fin F2 r := fun s h => Good.mono s h
  refine ⟨fun i m H' => i + m = ds.length ∧ ∃ F' ρ' ks ws acc, Stt X.K (GX (ks.zip ws)) σ H' F' ρ' ∧ Sm F1 F' ∧ ks.length = ws.length ∧ Reps X.K F' ws acc ∧ Fin F' (dcM vs t tc kx vx (ds.drop i) ks acc ρ'),
    ⟨ds.length, by omega, F1, ρ1, [], [], [], S1.xtNew hDa, Sm.refl, rfl, .nil, by rw [List.drop_zero]; exact g1⟩, ?_⟩
  rintro i m H' ⟨hm, F', ρ', ks, ws, acc, S', s', lk, ra, hgf⟩
  obtain ⟨stop, go⟩ := hJ i H' F' s' S'.sub
  by_cases hlt : i < ds.length
  · rw [List.drop_eq_getElem_cons hlt] at hgf
    obtain ⟨hgo, hy⟩ := go ds[i] (List.getElem?_eq_getElem hlt)
    refine .inr ⟨hgo, fun H2 => (i + 1) + (m - 1) = ds.length ∧ ∃ F' ρ' ks ws acc, Stt X.K (GX (ks.zip ws)) σ H2 F' ρ' ∧ Sm F1 F' ∧ ks.length = ws.length ∧ Reps X.K F' ws acc ∧ Fin F' (dcM vs t tc kx vx (ds.drop (i + 1)) ks acc ρ'),
      fun H2 hn => ⟨m - 1, by omega, hn⟩, fun x H2 hyl => ?_⟩
    obtain ⟨F2, A2, r2⟩ := hy x H2 hyl
    have S2 := S'.aft A2
    have ra2 := ra.mono A2.f
    unfold dcM at hgf
    by_cases hpl : plainR ρ' vs = true
    · rw [if_pos hpl] at hgf
      have hpl' : ∀ v ∈ vs, (ρ'.getD v .un).isFar = false := fun v hv => by
        have := List.all_eq_true.mp hpl v hv
        simpa using this
      have S3 := S2.wiped vs fun v hv => not_own_io (hpl' v hv)
      refine qg (GX (ks.zip ws)) (wipe σ vs) H2 F2 (wipeR ρ' vs) x _ _ S3 r2 ?_
      cases e : putT t ds[i] (wipeR ρ' vs) with
      | ok u ρ3 =>
        rw [e] at hgf
        refine fun σ3 H3 F3 S4 s4 o4 => ?_
        have l3 : σ3.length = (wipe σ vs).length := by
          rw [← S4.len, len_putT _ _ _ _ _ e, ← S3.len]
        have w3 : wipe σ3 vs = wipe σ vs := by
          refine wipe_same vs (by rw [l3, wipe_length]) fun j hj => ?_
          rw [o4 j fun hm => hj (hsl j hm), get_wipe σ vs j hj]
        have o3 : ∀ j, j ∉ vs → σ3[j]? = σ[j]? := fun j hj => by rw [o4 j fun hm => hj (hsl j hm), get_wipe σ vs j hj]
        refine ⟨w3, ?_⟩
        have ra3 := ra2.mono s4
        have back : ∀ {ws' : List (Key × V)} {H6 F6 : Hp} {ρ6 : Ro}, Stt X.K (GX ws') σ3 H6 F6 ρ6 → Sm F3 F6 → freeR ρ6 vs = true → Stt X.K (GX ws') σ H6 F6 (backR ρ' ρ6 vs) := fun {ws' H6 F6 ρ6} S6 s6 hf => by
          have hf' : ∀ v ∈ vs, (ρ6.getD v .un).isIo = false := fun v hv => by
            have := List.all_eq_true.mp hf v hv
            simpa using this
          obtain ⟨τ, Sτ, t1, t2, tl⟩ := S6.backed (σ := σ) (ρ0 := ρ') (by rw [l3, wipe_length]) vs vs hf' fun v hv => ⟨hpl' v hv, by
            have q := S'.at_ v
            have no := hpl' v hv
            cases ev : ρ'.getD v .un with
            | un => trivial
            | val d => rw [ev] at q; obtain ⟨w, e1, r⟩ := q; exact ⟨w, e1, r.mono (A2.f.tr (s4.tr s6))⟩
            | own p xs => rw [ev] at no; cases no
            | ins p C ns dd => rw [ev] at no; cases no
            | dic p ks dd => rw [ev] at no; cases no
            | pin => rw [ev] at no; cases no⟩
          have eτ : τ = σ := by
            apply List.ext_getElem?
            intro j
            by_cases hj : j ∈ vs
            · exact t2 j hj
            · rw [t1 j hj, o3 j hj]
          rw [eτ] at Sτ
          exact Sτ
        have hgf : Fin F3 ((tc ρ3).bind fun b ρ2 => if b = true then (kx ρ2).bind fun y ρ3 => (vx ρ3).bind fun z ρ4 => match keyD y with
            | some k => if ks.length < sizeLine ∧ freeR ρ4 vs = true then dcM vs t tc kx vx (ds.drop (i + 1)) (setKs k ks) (setVs k z ks acc) (backR ρ' ρ4 vs) else .stuck
            | none => .stuck
          else if freeR ρ2 vs = true then dcM vs t tc kx vx (ds.drop (i + 1)) ks acc (backR ρ' ρ2 vs) else .stuck) := mono (A2.f.tr s4) hgf
        refine qt (GX (ks.zip ws)) σ3 H3 F3 ρ3 _ S4 ?_
        cases ec : tc ρ3 with
        | ok b ρ4 =>
          rw [ec] at hgf
          refine fun H5 F5 S5 s5 => ?_
          have ra5 := ra3.mono s5
          cases b with
          | true =>
            show if true = true then _ else _
            rw [if_pos rfl]
            refine qk (GX (ks.zip ws)) σ3 H5 F5 ρ4 _ S5 ?_
            have hgf : Fin F5 ((kx ρ4).bind fun y ρ3 => (vx ρ3).bind fun z ρ4 => match keyD y with
              | some k => if ks.length < sizeLine ∧ freeR ρ4 vs = true then dcM vs t tc kx vx (ds.drop (i + 1)) (setKs k ks) (setVs k z ks acc) (backR ρ' ρ4 vs) else .stuck
              | none => .stuck) := mono s5 hgf
            cases ek : kx ρ4 with
            | ok y ρ5 =>
              rw [ek] at hgf
              refine fun H6 F6 S6 s6 yv ry => ?_
              refine qe (GX (ks.zip ws)) σ3 H6 F6 ρ5 _ S6 ?_
              have hgf : Fin F6 ((vx ρ5).bind fun z ρ4 => match keyD y with
                | some k => if ks.length < sizeLine ∧ freeR ρ4 vs = true then dcM vs t tc kx vx (ds.drop (i + 1)) (setKs k ks) (setVs k z ks acc) (backR ρ' ρ4 vs) else .stuck
                | none => .stuck) := mono s6 hgf
              cases ee : vx ρ5 with
              | ok z ρ6 =>
                rw [ee] at hgf
                refine fun H7 F7 S7 s7 zv rz => ?_
                have hgf := mono s7 hgf
                cases kd : keyD y with
                | none => simp only [kd, R.bind] at hgf; exact hgf.elim
                | some k =>
                  have hgf : Fin F7 (if ks.length < sizeLine ∧ freeR ρ6 vs = true then dcM vs t tc kx vx (ds.drop (i + 1)) (setKs k ks) (setVs k z ks acc) (backR ρ' ρ6 vs) else .stuck) := by
                    simp only [kd, R.bind] at hgf; exact hgf
                  split at hgf
                  · rename_i hz
                    have S8 := back S7 (s5.tr (s6.tr s7)) hz.2
                    obtain ⟨x1, x2, x3, x4⟩ := S7.xt (Da, .dK (ks.zip ws)) (List.mem_cons_self ..)
                    have ey : yv = kV k := keyD_v (ry.mono s7) kd
                    refine ⟨ks.zip ws, k, ey, x1, by rw [List.length_zip]; omega, by omega, F7, _, setKs k ks, setVs k zv ks ws, setVs k z ks acc, ?_, s'.tr (A2.f.tr (s4.tr (s5.tr (s6.tr s7)))), set_len lk, set_reps rz ((ra5.mono s6).mono s7), hgf⟩
                    rw [put_zip lk]
                    exact S8.xtUpd
                  · exact hgf.elim
              | exc xx ρ6 => rw [ee] at hgf; exact hgf.elim
              | stuck => rw [ee] at hgf; exact hgf.elim
            | exc xx ρ5 => rw [ek] at hgf; exact hgf.elim
            | stuck => rw [ek] at hgf; exact hgf.elim
          | false =>
            show if false = true then _ else _
            rw [if_neg Bool.false_ne_true]
            have hgf : Fin F5 (if freeR ρ4 vs = true then dcM vs t tc kx vx (ds.drop (i + 1)) ks acc (backR ρ' ρ4 vs) else .stuck) := mono s5 hgf
            split at hgf
            · rename_i hz
              exact ⟨by omega, F5, _, ks, ws, acc, back S5 s5 hz, s'.tr (A2.f.tr (s4.tr s5)), lk, ra5, hgf⟩
            · exact hgf.elim
        | exc xx ρ4 => rw [ec] at hgf; exact hgf.elim
        | stuck => rw [ec] at hgf; exact hgf.elim
      | exc xx ρ3 => rw [e] at hgf; exact hgf.elim
      | stuck => rw [e] at hgf; exact hgf.elim
    · rw [if_neg hpl] at hgf; exact hgf.elim
  · have e0 : ds.drop i = [] := List.drop_eq_nil_of_le (by omega)
    rw [e0] at hgf
    have hgf : Good X.K G W σ F' (.ok (.dct ks acc) ρ') (PD X.K Q) := hgf
    have S2 := S'.xtFreeze
    exact .inl ⟨stop (by omega), hgf H' _ S2.1 S2.2 _ (.dct upd_same lk (ra.mono S2.2))⟩
end
end Mr
/-! Mr16: how many different texts a tuple has. -/
namespace Mr
open PySem PySem.Spec PyProof.Rows L2
variable [Lam] [Pins]
def hasS (l : List Str) (x : Str) : Bool := l.any fun q => decide (q = x)
/-- one of each, in the order of their first places -/
def uniqS (xs : List Str) : List Str := xs.foldl (fun acc x => if hasS acc x = true then acc else acc ++ [x]) []
theorem uniqS_snoc (xs : List Str) (x : Str) : uniqS (xs ++ [x]) = if hasS (uniqS xs) x = true then uniqS xs else uniqS xs ++ [x] := by
  unfold uniqS
  rw [List.foldl_append]; rfl
theorem uniqS_le : ∀ (n : Nat) (xs : List Str), xs.length = n → (uniqS xs).length ≤ n := by
  intro n
  induction n with
  | zero => intro xs h; rw [List.eq_nil_of_length_eq_zero h]; exact Nat.le_refl _
  | succ n ih =>
    intro xs h
    have ne : xs ≠ [] := fun z => by rw [z] at h; simp at h
    rw [← List.dropLast_concat_getLast ne, uniqS_snoc]
    have := ih xs.dropLast (by rw [List.length_dropLast, h]; rfl)
    split
    · omega
    · rw [List.length_append, List.length_singleton]; omega
section
variable {prog : Program} {w : World} {A : Around} {E : Value → Shared → Prop}
/-- the set at S holds the first i texts -/
abbrev SetUp (prog : Program) (w : World) (S : Addr) (xs : List Str) (i : Nat) (h : Heap) : Prop := h.SetOf (PySem.strKind prog w) S (hasS (uniqS (xs.take i))) (uniqS (xs.take i)).length
theorem set_loop {R : Result → Shared → Prop} {I : Addr} {fp wr : List Addr} {G : Array GenState → Array GenState → Prop} {n : Nat} {P : Nat → Value → Prop} {St : Nat → Shared → Prop} (W : WalksS prog w A.in1 I fp wr G n P St) (S : Addr) (apart : S ∉ fp) (xs : List Str) (len : xs.length = n) (small : n < 1000)
    (val : ∀ i v, P i v → ∃ t, v = .str (xs.getD i Str.empty) t) : ∀ (left i : Nat) (s : Shared), n - i = left → i ≤ n → St i s → SetUp prog w S xs i s.heap →
      (∀ s', Moved (S :: wr) G s s' → SetUp prog w S xs n s'.heap → R (.ok (.ret .none)) s') → codeAny (model prog w) A (.builtin "set.update.loop" ⟨[.ref S, .ref I], []⟩) R s := by
  have outside : S ∉ wr := fun z => apart (W.sub _ z)
  have wide : ∀ b ∈ wr, b ∈ S :: wr := fun b hb => List.mem_cons_of_mem _ hb
  have carry : ∀ {s s' : Shared} {j : Nat}, Moved wr G s s' → SetUp prog w S xs j s.heap → SetUp prog w S xs j s'.heap := fun m ⟨o, es, ep, t, ho, r⟩ => ⟨o, es, ep, t, m.heap S _ outside ho, r⟩
  intro left
  induction left with
  | zero =>
    intro i s e1 e2 st up fin
    obtain rfl : i = n := by omega
    refine codeAny_builtin PyProof.Rows.F.entry_set_update_loop ?_
    rw [Around.under_plainId PyProof.Rows.F.plain_set_update_loop _]
    show wpAny _ A.in1 (pyNext (.ref I) >>= _) _ _ s
    refine wpAny_bind (W.done s _ _ st fun s' m => ?_)
    show wpAny _ A.in1 (ret Value.none) _ _ s'
    exact wpAny_pure (fin s' (m.mono wide) (carry m up))
  | succ left ih =>
    intro i s e1 e2 st up fin
    have lt : i < n := by omega
    refine codeAny_builtin PyProof.Rows.F.entry_set_update_loop ?_
    rw [Around.under_plainId PyProof.Rows.F.plain_set_update_loop _]
    show wpAny _ A.in1 (pyNext (.ref I) >>= _) _ _ s
    refine wpAny_bind (W.item i s _ _ lt st fun v s1 pv st1 m => ?_)
    obtain ⟨t, rfl⟩ := val i v pv
    have up1 := carry m up
    have ei : xs.getD i Str.empty = xs[i]'(by omega) := by
      rw [List.getD_eq_getElem?_getD, List.getElem?_eq_getElem (by omega)]; rfl
    have bound := uniqS_le _ (xs.take i) rfl
    rw [List.length_take] at bound
    generalize xs.getD i Str.empty = x at ei ⊢
    show wpAny _ A.in1 (holding [Value.str x t] (setAdd S (.str x t)) >>= _) _ _ s1
    refine wpAny_bind (wpAny_holding ?_)
    unfold setAdd
    refine wpAny_holding (wpAny_bind ((PySem.strKind prog w).pyHash (k := x) (PySem.strKind_is _ _ _ _) ?_))
    refine wpAny_setAddHashed_of (knd := PySem.strKind prog w) (s := { s1 with toks := s1.toks + 1 }) (PySem.strKind_is _ _ _ _) rfl up1 (by unfold scanBound; omega) fun h2 sb up2 => ?_
    have up3 : SetUp prog w S xs (i + 1) h2 := by
      have e3 : xs.take (i + 1) = xs.take i ++ [x] := by rw [List.take_succ_eq_append_getElem (by omega), ei]
      unfold SetUp
      rw [e3, uniqS_snoc]
      refine SetOf_congr up2 (fun k => ?_) ?_
      · by_cases hx : hasS (uniqS (xs.take i)) x = true
        · rw [if_pos hx]
          by_cases hk : k = x
          · subst hk; simp [hx]
          · simp [hk]
        · rw [if_neg hx]
          unfold hasS
          rw [List.any_append]
          congr 1
          by_cases hk : k = x
          · subst hk; simp
          · simp [hk, Ne.symm hk]
      · by_cases hx : hasS (uniqS (xs.take i)) x = true
        · rw [if_pos hx, if_pos hx]
        · rw [if_neg hx, if_neg hx, List.length_append]; rfl
    have kept : ∀ b o, b ≠ S → s1.heap.get? b = some o → h2.get? b = some o := fun b o ne e => (sb.2 b ne).trans e
    refine wpAny_pure ⟨plainId_quiet PyProof.Rows.F.plain_set_update_loop _, ih (i + 1) _ (by omega) lt (W.frame _ s1 _ _ st1 (Nat.le_succ _) fun b hb o e => kept b o (fun z => apart (z ▸ hb)) e) up3 fun s2 m2 up4 => ?_⟩
    exact fin s2 (Moved.trans W.gtrans ((m.mono wide).then_heap (Nat.le_succ _) fun b o hb e => kept b o (fun z => hb (z ▸ List.mem_cons_self ..)) e) m2) up4
/-- set(a tuple of texts) -/
theorem set_of_tup {s : Shared} {l : Addr} {its : Array Value} {xs : List Str} {Q : Value → Shared → Prop} (calm : A.handled = none) (tup : s.heap.IsTuple l its) (hstr : PyProof.Rows.StrsAre its.toList xs) (small : xs.length < 1000)
    (h : ∀ (h' : Heap) (tk : Nat), h'.SetOf (PySem.strKind prog w) s.heap.objs.size (hasS (uniqS xs)) (uniqS xs).length → (∀ b o, b < s.heap.objs.size → s.heap.get? b = some o → h'.get? b = some o) → Q (.ref s.heap.objs.size) { s with heap := h', toks := tk }) :
    wpAny (model prog w) A (call (.type "set") [.ref l]) Q E s := by
  obtain ⟨c, tl, mro⟩ := PySem.F.called_set.mro
  have made := PySem.F.called_set.made
  have sub0 := PySem.F.called_set.sub
  refine wpAny_call (codeAny_of_tree ?_)
  show wpAny _ _ (callAny (.type "set") _) _ _ _
  refine wpAny_pure ⟨Code.quiet_builtin _ (by decide +kernel), codeAny_builtin PySem.F.entry_type_call ?_⟩
  rw [Around.under_plain (weight_type_call_type "set" [.ref l] []) rfl]
  have notT := PySem.F.called_set.notType
  have canC := PySem.F.called_set.canCreate
  have callS := PySem.F.typeCall_set_1 (.ref l)
  repeat (any_goals (first | assumption | wp_step))
  -- the empty set
  refine codeAny_mono (code_set_new_1 (.ref l) (E := E) (Q₁ := fun ob s1 => ∃ led : Bool, ob = .ref s.heap.objs.size ∧ s1 = { s with heap := s.heap.push { cls := .type "set", dict := none, data := .set #[] 0 (.fresh 0 0 led) } }) fun led => ⟨led, rfl, rfl⟩) fun r s1 hr => ?_
  match r, hr with
  | .error e, hr => exact hr
  | .ok .next, hr => exact hr.elim
  | .ok .brk, hr => exact hr.elim
  | .ok .cont, hr => exact hr.elim
  | .ok (.ret ob), ⟨led, e1, e2⟩ =>
    subst e1 e2
    have got : (s.heap.push { cls := .type "set", dict := none, data := .set #[] 0 (.fresh 0 0 led) }).get? s.heap.objs.size = some { cls := .type "set", dict := none, data := .set #[] 0 (.fresh 0 0 led) } := Heap.get?_push_size _ rfl
    have isSet : Shared.TypeIs { s with heap := s.heap.push { cls := .type "set", dict := none, data := .set #[] 0 (.fresh 0 0 led) } } (.ref s.heap.objs.size) "set" := ⟨_, got, rfl⟩
    have look := PySem.F.called_set.init.lookup
    have bind0 := PySem.F.called_set.init.bind (.ref s.heap.objs.size)
    repeat (any_goals (first | assumption | wp_step))
    refine codeAny_mono (codeAny_call_builtin (R := wants (fun r s2 => r = .none ∧ ∃ h' tk, s2 = { s with heap := h', toks := tk } ∧ h'.SetOf (PySem.strKind prog w) s.heap.objs.size (hasS (uniqS xs)) (uniqS xs).length ∧
      (∀ b o, b < s.heap.objs.size → s.heap.get? b = some o → h'.get? b = some o)) E) PySem.F.called_set.init.plain PySem.F.entry_set_init (check_set_init_1 isSet ?_)) fun r2 s2 hr2 => ?_
    · obtain ⟨ol, hol, hcl, nl, hdl⟩ := tup
      obtain ⟨ocls, odict, odata, oslots⟩ := ol
      obtain rfl : ocls = Value.type "tuple" := hcl
      obtain rfl : odata = Data.seq its nl := hdl
      have low : l < s.heap.objs.size := Heap.lt_size hol
      have atl : (s.heap.push { cls := .type "set", dict := none, data := .set #[] 0 (.fresh 0 0 led) }).get? l = some { cls := .type "tuple", dict := odict, data := .seq its nl, slots := oslots } := Heap.get?_push_of_some _ hol
      have s1 := PySem.F.sub_tuple_set
      have s2 := PySem.F.sub_tuple_frozenset
      have s3 : (Value.type "tuple" == Value.type "dict") = false := by decide
      have tup1 : (s.heap.push { cls := .type "set", dict := none, data := .set #[] 0 (.fresh 0 0 led) }).IsTuple l its := ⟨_, atl, rfl, nl, rfl⟩
      unfold Builtin.«set.__init__» noKeywords Builtin.Frozenset.updateFrom
      generalize hPI : pyIter = PI
      wp_walk
      subst hPI
      refine wpAny_pyIter_tuple tup1 ?_
      refine wpAny_bind (wpAny_runValue ?_)
      have calm3 : A.in1.in1.in1.handled = none := by simp [calm]
      have sz1 : (s.heap.push { cls := .type "set", dict := none, data := .set #[] 0 (.fresh 0 0 led) }).objs.size = s.heap.objs.size + 1 := Heap.size_push ..
      have n1 : l ≠ (s.heap.push { cls := .type "set", dict := none, data := .set #[] 0 (.fresh 0 0 led) }).objs.size := by rw [sz1]; exact Nat.ne_of_lt (Nat.lt_succ_of_lt low)
      have n2 : s.heap.objs.size ∉ [(s.heap.push { cls := .type "set", dict := none, data := .set #[] 0 (.fresh 0 0 led) }).objs.size, l] := by
        rw [sz1]
        simp only [List.mem_cons, List.not_mem_nil, or_false, not_or]
        exact ⟨Nat.ne_of_lt (Nat.lt_succ_self _), Nat.ne_of_gt low⟩
      have len : xs.length = its.size := by rw [← StrsAre.len_eq hstr, Array.length_toList]
      have vals : ∀ (i : Nat) (v : Value), its[i]? = some v → ∃ t, v = .str (xs.getD i Str.empty) t := fun i v hv => SS.strs_at hstr i v (by rw [Array.getElem?_toList]; exact hv)
      have full : xs.take its.size = xs := by rw [← len, List.take_length]
      refine set_loop ((Walks.tuple calm3 _ l n1 its).toS) s.heap.objs.size n2 xs len (by omega) vals (its.size - 0) 0 _ rfl (Nat.zero_le _) ⟨⟨_, Heap.get?_push_size _ rfl, rfl, rfl⟩, tup1.push _⟩ ?_ ?_
      · refine SetOf_congr ((PyProof.Rows.setObjOf_fresh (knd := PySem.strKind prog w) led).setOf (a := s.heap.objs.size) (Heap.get?_push_of_some _ got) (by unfold scanBound; omega)) (fun _ => rfl) rfl
      · intro s' mv up
        obtain ⟨h', g', d', tk', os'⟩ := s'
        obtain rfl : g' = s.gens := mv.gens
        obtain rfl : d' = s.drawn := mv.drawn
        obtain rfl : os' = s.os := mv.os
        unfold SetUp at up
        rw [full] at up
        show wpAny _ _ _ _ _ _
        refine wpAny_pure ?_
        show wpAny _ _ (ret Value.none) _ _ _
        refine wpAny_pure ⟨rfl, h', tk', rfl, up, fun b o hb e => mv.heap b o ?_ (Heap.get?_push_of_some _ (Heap.get?_push_of_some _ e))⟩
        simp only [List.mem_cons, List.not_mem_nil, or_false, not_or]
        exact ⟨Nat.ne_of_lt hb, by rw [sz1]; exact Nat.ne_of_lt (Nat.lt_succ_of_lt hb)⟩
    · match r2, hr2 with
      | .error e, hr2 => exact hr2
      | .ok .next, hr2 => exact hr2.elim
      | .ok .brk, hr2 => exact hr2.elim
      | .ok .cont, hr2 => exact hr2.elim
      | .ok (.ret r), ⟨e3, h', tk, e4, up, kp⟩ =>
        subst e3 e4
        repeat (any_goals (first | assumption | wp_step))
        exact h _ _ up kp
end
end Mr
/-! Mr17: len(set(..)), tables, parallel stores, stores beside. -/
namespace Mr
open PySem PySem.Spec PyProof.Rows L2
variable [Lam] [Pins]
def strsD : List D → Option (List Str)
  | [] => some []
  | .str x :: r => (strsD r).map (x :: ·)
  | _ => none
def lenSetD : D → FR D
  | .tup xs => match strsD xs with
    | some ss => if ss.length < 1000 then .ok (.int (uniqS ss).length) else .stuck
    | none => .stuck
  | _ => .stuck
theorem strsD_vals {K : PySem.W.Frag} {H : Hp} : ∀ {vs : List V} {ds : List D} {ss : List Str}, Reps K H vs ds → strsD ds = some ss → vs = ss.map V.str
  | _, _, ss, .nil, h => by cases h; rfl
  | _, _, ss, .cons (d := d) (ds := ds) r t, h => by
    cases d with
    | str x =>
      unfold strsD at h
      obtain ⟨r', e, rfl⟩ := Option.map_eq_some_iff.mp h
      cases r
      rw [strsD_vals t e]; rfl
    | _ => cases h
theorem strs_are : ∀ {ss : List Str} {us : List Value}, Vals (ss.map V.str) us → PyProof.Rows.StrsAre us ss
  | [], _, .nil => .nil
  | x :: ss, _, .cons r t => by
    obtain ⟨k, rfl⟩ := r
    exact .cons x k (strs_are t)
section
variable {X : Cx} {W : WX} {e : Expr} {fe : M D} {p p2 pos q : Pos}
def tLenS (K : PySem.W.Frag) (ta : TE) : TE := fun σ H Q => ta σ H fun x H1 => ∃ l ss, x = .ref l ∧ SqT K H1 l (ss.map V.str) ∧ ss.length < 1000 ∧ Q (.int (uniqS ss).length) H1
theorem pe_lenS {ta : TE} (hc : X.calm = true) (hg : Gl X "len") (hm : X.mg "len" = none) (hg2 : Gl X "set") (hm2 : X.mg "set" = none) (ha : PE X e ta)
    (na : starEach [e] X.env = (false, eval e X.env) :: starEach [] X.env := by rfl) : PE X (.Call (.Name "len" p) [.Call (.Name "set" p2) [e] [] q] [] pos) (tLenS X.K ta) := by
  refine ⟨fun pins s σ H Q I h => Call_ (ld_blt I hg hm boot_len (PyProof.Rows.callWith_builtin1 (PyProof.Rows.args_cons ?_ rfl) rfl rfl))⟩
  refine Call_ (ld_blt I hg2 hm2 (show bootBuiltins "set" = some (.type "set") by decide +kernel) ?_)
  refine PyProof.Rows.callWith_type1 (PyProof.Rows.args_cons (thn (ha.run pins s σ H _ I h) fun v s1 ⟨x, H1, I1, r1, q1⟩ => PyProof.Rows.args_nil ?_) na) na rfl
  obtain ⟨l, ss, rfl, hq, hl, q1⟩ := q1
  cases r1
  obtain ⟨its, r, pl, hz⟩ := I1.tuple hq
  refine set_of_tup (I1.ok.hd hc) pl (by simpa using strs_are r) hl fun h' tk hS hk => ?_
  refine PyProof.Rows.args_nil ?_
  have bd := uniqS_le _ ss rfl
  obtain ⟨o, es, ep, t, ho, hex, hd, _, _, _, hf, hn⟩ := hS
  have I2 : Inv X pins σ H1 { s1 with heap := h', toks := tk } := I1.kept fun b o e => hk b o (Heap.lt_size e) e
  exact call_len_set ho hex hd hf (by rw [hn]; omega) ⟨.int (uniqS ss).length, H1, I2.tok _, ⟨_, by rw [hn]⟩, q1⟩
theorem AE.lenS (hc : X.calm = true) (hg : Gl X "len") (hm : X.mg "len" = none) (hg2 : Gl X "set") (hm2 : X.mg "set" = none) (ha : AE X W e fe)
    (na : starEach [e] X.env = (false, eval e X.env) :: starEach [] X.env := by rfl) : AE X W (.Call (.Name "len" p) [.Call (.Name "set" p2) [e] [] q] [] pos) (m1 lenSetD fe) := by
  obtain ⟨t, pe, qe⟩ := ha
  refine ⟨_, pe_lenS hc hg hm hg2 hm2 pe na, fun G σ H F ρ Q S hg => qe G σ H F ρ _ S (hg.bind fun d ρ1 H1 F1 S1 s1 g1 v r1 => ?_)⟩
  cases r1 with
  | tup hx rx =>
    rename_i ds
    have g2 : Good X.K G W σ F1 ((match strsD ds with | some ss => if ss.length < 1000 then FR.ok (D.int (uniqS ss).length) else .stuck | none => .stuck).lift ρ1) (PD X.K Q) := g1
    cases e1 : strsD ds with
    | none => simp only [e1] at g2; exact g2.elim
    | some ss =>
      simp only [e1] at g2
      split at g2
      · rename_i hl
        rw [strsD_vals rx e1] at hx
        exact ⟨_, ss, rfl, SqTm S1.sub hx, hl, g2 H1 F1 S1 Sm.refl _ (.int _)⟩
      · exact g2.elim
  | _ => exact g1.elim
/-! ### tables: tuples of the text's top -/
def Dd : D → Option He.Dv
  | .non => some .non
  | .bl b => some (.bl b)
  | .int i => some (.int i)
  | .str x => some (.str x)
  | _ => none
def dvs : List D → Option (List He.Dv)
  | [] => some []
  | d :: ds => match Dd d, dvs ds with
    | some a, some r => some (a :: r)
    | _, _ => none
theorem dvs_reps {K : PySem.W.Frag} {F : Hp} : ∀ {ds : List D} {r : List He.Dv}, dvs ds = some r → Reps K F (r.map (He.Dv.v K)) ds
  | [], r, h => by cases h; exact .nil
  | d :: ds, r, h => by
    unfold dvs at h
    cases e1 : Dd d with
    | none => simp only [e1] at h; cases h
    | some a =>
      cases e2 : dvs ds with
      | none => simp only [e1, e2] at h; cases h
      | some q =>
        simp only [e1, e2] at h
        cases h
        refine .cons ?_ (dvs_reps e2)
        cases d <;> cases e1 <;> first | exact .non | exact .bl _ | exact .int _ | exact .str _
/-- the module's name x is the tuple of these -/
def tabB (x : Str) (ds : List D) (K : PySem.W.Frag) : Bool := match dvs ds with
  | some r => He.eqO (PySem.W.nsIn K mainGlobals x) (some (some (.ref (He.ga K x)))) && He.tupB K x r
  | none => false
structure TabF (X : Cx) (x : Str) (ds : List D) : Prop where
  m : X.mg x = some (.ref (He.ga X.K x))
  r : ∀ F : Hp, Rep X.K F (.ref (He.ga X.K x)) (.tup ds)
theorem tab_rep {K : PySem.W.Frag} {x : Str} {ds : List D} (h : tabB x ds K = true) (F : Hp) : Rep K F (.ref (He.ga K x)) (.tup ds) := by
  unfold tabB at h
  cases e : dvs ds with
  | none => rw [e] at h; cases h
  | some r =>
    rw [e] at h
    exact .tup (He.tupB_ok (He.ba h).2 F) (dvs_reps e)
theorem tab_mg {K : PySem.W.Frag} {h : Heap} {mg : Str → Option Value} {x : Str} {ds : List D} (I : K.In h) (G : h.Ns mainGlobals mg) (c : tabB x ds K = true) : mg x = some (.ref (He.ga K x)) := by
  unfold tabB at c
  cases e : dvs ds with
  | none => rw [e] at c; cases c
  | some r =>
    rw [e] at c
    exact PySem.W.mg_of I G (He.eqO_ok (He.ba c).1)
theorem AE.gtab {x : Str} {ds : List D} {k : Pos} (hg : Gl X x) (hm : X.mg x = some (.ref (He.ga X.K x))) (hr : ∀ F : Hp, Rep X.K F (.ref (He.ga X.K x)) (.tup ds)) (hdb : (x == ("__debug__" : Str)) = false := by decide) : AE X W (.Name x k) (mC (.tup ds)) :=
  ⟨_, pe_glob (v := .ref (He.ga X.K x)) hg hm rfl hdb, fun G σ H F ρ Q S hgd => hgd H F S Sm.refl _ (hr F)⟩
end
end Mr
/-! Mr18: what the top leaves: defs at any place, tests of one's own. -/
namespace Mr
open PySem PySem.Spec PyProof.Rows L2
variable [Lam] [Pins]
/-- the getter of the property f of the class c -/
def pgA (c f : Str) (K : PySem.W.Frag) : Addr := match PySem.W.findIn K (.ref (He.ga K c)) f with
  | some (some (.ref p)) => (match PySem.W.recIn K p "property" with
    | some (.ref g :: _) => g
    | _ => 0)
  | _ => 0
def glA (x : Str) (K : PySem.W.Frag) : Addr := He.ga K x
def meA (c f : Str) (K : PySem.W.Frag) : Addr := He.ma K (He.ga K c) f
/-- the class c has the property f -/
def propB (c f : Str) (K : PySem.W.Frag) : Bool := match PySem.W.findIn K (.ref (He.ga K c)) f with
  | some (some (.ref p)) => He.eqO (PySem.W.specialIn K (.ref p) "__get__") (some (some (.builtin "property.__get__"))) && (decide (PySem.W.takesIn K (.ref p) = some true) && (match PySem.W.recIn K p "property" with
    | some (.ref _ :: _) => true
    | _ => false))
  | _ => false
theorem propB_ok {c f : Str} {K : PySem.W.Frag} (h : propB c f K = true) : ∃ p, PropOf K (He.ga K c) f p (pgA c f K) := by
  unfold propB at h
  split at h
  · rename_i p e
    obtain ⟨h1, h⟩ := He.ba h
    obtain ⟨h2, h3⟩ := He.ba h
    split at h3
    · rename_i g rest e2
      refine ⟨p, e, He.eqO_ok h1, of_decide_eq_true h2, rest, ?_⟩
      unfold pgA
      simp only [e, e2]
    · cases h3
  · cases h
/-- a def: where it stands, its name, qualified name, parameters, body, scope, defaults -/
structure DefM where
  at_ : PySem.W.Frag → Addr
  name : Str
  qual : Str
  params : Arguments
  body : List Stmt
  scope : Scope
  dfl : List He.Dv := []
def fnM (K : PySem.W.Frag) (a : Addr) : He.FnW := match K.lookup a with
  | some ⟨_, _, .func fd, _⟩ => some (fd.name, fd.qualname, fd.params, fd.body, fd.scope, fd.globals, fd.closure, fd.builtins)
  | _ => none
def DefM.val (d : DefM) : He.FnW := some (d.name, d.qual, d.params, .stmts d.body, d.scope, mainGlobals, [], builtinsNs)
def DefM.dvs (K : PySem.W.Frag) (d : DefM) : List V := d.dfl.map (He.Dv.v K)
def DefM.ok (K : PySem.W.Frag) (d : DefM) : Bool := PySem.W.keepIn K (.ref (d.at_ K)) && (match K.lookup (d.at_ K) with
  | some ⟨_, _, .func fd, _⟩ => PySem.W.codeIn K fd.code d.qual && He.dflB K fd.defaults (d.dvs K)
  | _ => false)
theorem DefM.funD {K : PySem.W.Frag} {d : DefM} (e : fnM K (d.at_ K) = d.val) (c : d.ok K = true) : ∃ fd, FunD K d.name d.qual d.params d.body d.scope (d.dvs K) [] (d.at_ K) fd := by
  obtain ⟨kp, c⟩ := He.ba c
  unfold fnM at e
  split at e
  · rename_i oc od fd osl lk
    rw [lk] at c
    obtain ⟨n1, n2, n3, n4, n5, n6, n7, n8, n9, n10, n11, n12, n13, n14, n15⟩ := fd
    have e2 : (some (n1, n2, n3, n4, n5, n6, n7, n15) : He.FnW) = d.val := e
    unfold DefM.val at e2
    simp only [Option.some.injEq, Prod.mk.injEq] at e2
    obtain ⟨rfl, rfl, rfl, rfl, rfl, rfl, rfl, rfl⟩ := e2
    obtain ⟨k1, k2⟩ := He.ba (show (PySem.W.codeIn K n13 d.qual && He.dflB K n8 (d.dvs K)) = true from c)
    exact ⟨_, ⟨oc, od, n8, n9, n10, n11, n12, n13, n14, osl, rfl, lk, k1, He.dflB_ok k2, He.kwdB_ok (kws := []) rfl⟩, kp⟩
  · cases e
abbrev AlM : Type := Bool × List He.FnW
def obsM (fa : List He.Fa) (tb : List (PySem.W.Frag → Bool)) (fn : List DefM) (K : PySem.W.Frag) : AlM := ((fa.all fun f => f.ok K) && ((tb.all fun t => t K) && fn.all fun d => d.ok K), fn.map fun d => fnM K (d.at_ K))
def valM (fn : List DefM) : AlM := (true, fn.map DefM.val)
def SaysM (fa : List He.Fa) (tb : List (PySem.W.Frag → Bool)) (fn : List DefM) (K : PySem.W.Frag) : Prop := obsM fa tb fn K = valM fn
/-! ### defs that make lambdas -/
/-- such a def, what its lambdas are called -/
structure LamM where
  at_ : PySem.W.Frag → Addr
  q : Str
def codP (K : PySem.W.Frag) (f : Addr) : Addr := match codV K f with
  | .ref c => c
  | _ => 0
/-- the table of its code object -/
def tabP (K : PySem.W.Frag) (f : Addr) : Addr := match K.lookup (codP K f) with
  | some ⟨_, _, .fields vs, _⟩ => (match vs.getD 11 .none with
    | .ref P => P
    | _ => 0)
  | _ => 0
def lamT (ls : List LamM) (K : PySem.W.Frag) : List (Addr × Str) := ls.map fun l => (tabP K (l.at_ K), l.q)
/-- the module of the built-in names -/
def bmB (K : PySem.W.Frag) (P : Addr) : Bool := match PySem.W.nsIn K mainGlobals "__builtins__" with
  | some (some (.ref bm)) => !decide (bm = builtinsNs) && (!decide (bm = mainGlobals) && (!decide (bm = P) && (match K.lookup bm with
    | some ⟨.type "module", some d, .plain, _⟩ => decide (d = builtinsNs)
    | _ => false)))
  | _ => false
def lam1 (K : PySem.W.Frag) (l : LamM) : Bool := decide (codV K (l.at_ K) = .ref (codP K (l.at_ K))) && (PySem.W.codeHdIn K (codP K (l.at_ K)) (tabP K (l.at_ K)) && (bmB K (tabP K (l.at_ K)) && (!decide (mainGlobals = tabP K (l.at_ K)) && (K.lookup (tabP K (l.at_ K))).isNone)))
def lamB (ls : List LamM) (K : PySem.W.Frag) : Bool := (ls.all fun l => lam1 K l) && (lamT ls K).all fun p => (lamT ls K).all fun q => !decide (p.1 = q.1) || decide (p.2 = q.2)
def emptyB (g : Addr → Option Obj) (P : Addr) : Bool := match g P with
  | some ⟨.none, none, .fields vs, sl⟩ => vs.isEmpty && sl.isEmpty
  | _ => false
theorem emptyB_ok {h : Heap} {P : Addr} (e : emptyB h.get? P = true) : h.get? P = some { cls := .none, data := .fields #[] } := by
  unfold emptyB at e
  split at e
  · rename_i vs sl q
    obtain ⟨e1, e2⟩ := He.ba e
    rw [q, Array.isEmpty_iff.mp e1, Array.isEmpty_iff.mp e2]
  · cases e
def fragL (ls : List LamM) (g : Addr → Option Obj) (as : List Addr) : PySem.W.Frag :=
  match ls with
  | [] => He.frG g as
  | _ => He.frG g (as.filter fun a => !((lamT ls (He.frG g as)).map (·.1)).contains a)
theorem fragL_in {ls : List LamM} {as : List Addr} {h : Heap} : (fragL ls h.get? as).In h := by
  unfold fragL
  split <;> exact He.frG_in
/-- written dicts: their names, their keys -/
abbrev WdL : Type := List (Str × List Str)
abbrev AlX : Type := AlM × List (Option (List (Option (Str × Int))))
def obsMG (n : Nat) (fa : List He.Fa) (tb : List (PySem.W.Frag → Bool)) (fn : List DefM) (ls : List LamM) (wd : WdL) (g : Addr → Option Obj) : AlX :=
  (((obsM fa tb fn (fragL ls g (He.asD g n))).1 && (lamB ls (fragL ls g (He.asD g n)) && (lamT ls (fragL ls g (He.asD g n))).all fun p => emptyB g p.1), (obsM fa tb fn (fragL ls g (He.asD g n))).2), wd.map fun d => He.dicW (fragL ls g (He.asD g n)) (He.ga (fragL ls g (He.asD g n)) d.1))
/-- what is known of the written dicts -/
def WdAt (wd : WdL) (w : World) (K : PySem.W.Frag) : Prop := ∀ d ∈ wd, He.dicW K (He.ga K d.1) = some (He.keysIn w.params d.2)
/-- what is known of the lambdas' tables -/
def LamsAt (ls : List LamM) (K : PySem.W.Frag) (h : Heap) : Prop := lamB ls K = true ∧ ∀ p ∈ lamT ls K, h.get? p.1 = some { cls := .none, data := .fields #[] }
def hookM (n : Nat) (fa : List He.Fa) (tb : List (PySem.W.Frag → Bool)) (fn : List DefM) (ls : List LamM) (wd : WdL) : PySem.W.Hook where
  α := AlX
  obs := fun s => obsMG n fa tb fn ls wd s.heap.get?
  val := fun w => (valM fn, wd.map fun d => some (He.keysIn w.params d.2))
  says := fun w h => ∃ K : PySem.W.Frag, K.In h ∧ SaysM fa tb fn K ∧ LamsAt ls K h ∧ WdAt wd w K
  of := fun w s e => by
    have e : obsMG n fa tb fn ls wd s.heap.get? = (valM fn, wd.map fun d => some (He.keysIn w.params d.2)) := e
    unfold obsMG valM at e
    obtain ⟨e, h5⟩ := Prod.mk.injEq .. ▸ e
    obtain ⟨h1, h2⟩ := Prod.mk.injEq .. ▸ e
    obtain ⟨h1, h3⟩ := He.ba h1
    obtain ⟨h3, h4⟩ := He.ba h3
    exact ⟨fragL ls s.heap.get? (He.asD s.heap.get? n), fragL_in, Prod.ext h1 h2, ⟨h3, fun p hp => emptyB_ok (List.all_eq_true.mp h4 p hp)⟩, fun d hd => List.map_inj_left.mp h5 d hd⟩
  keeps := fun _ _ _ ⟨K, hK, c, ⟨l1, l2⟩, d⟩ k => ⟨K, PySem.W.Frag.In.keeps hK k, c, ⟨l1, fun p hp => k _ _ (l2 p hp)⟩, d⟩
theorem obsMG_eq {n : Nat} {fa : List He.Fa} {tb : List (PySem.W.Frag → Bool)} {fn : List DefM} {ls : List LamM} {wd : WdL} {g : Addr → Option Obj} {s : Shared} (h : ∀ a, g a = s.heap.get? a) : obsMG n fa tb fn ls wd g = (hookM n fa tb fn ls wd).obs s := by
  have e : g = s.heap.get? := funext h
  rw [e] <;> rfl
theorem lamB_at {ls : List LamM} {K : PySem.W.Frag} (h : lamB ls K = true) (i : Nat) {l : LamM} (e : ls[i]? = some l := by rfl) : lam1 K l = true := List.all_eq_true.mp (He.ba h).1 l (List.mem_of_getElem? e)
/-- what the making of a lambda in the def at f asks -/
structure LamF (K : PySem.W.Frag) (mg : Str → Option Value) (f : Addr) (q : Str) : Prop where
  ex : ∃ c P, codV K f = .ref c ∧ PySem.W.codeHdIn K c P = true ∧ (P, q) ∈ Lam.T K ∧ (∀ p ∈ Lam.T K, p.1 = P → p.2 = q) ∧ mainGlobals ≠ P ∧ ∀ base : Heap, K.In base → base.BuiltinsAt mg P
theorem lamF_ok {K : PySem.W.Frag} {h : Heap} {mg : Str → Option Value} (X : K.In h) (G : h.Ns mainGlobals mg) {ls : List LamM} (hT : Lam.T K = lamT ls K) (hb : lamB ls K = true) (i : Nat) {l : LamM} (e : ls[i]? = some l := by rfl) : LamF K mg (l.at_ K) l.q := by
  obtain ⟨h1, h2⟩ := He.ba (lamB_at hb i e)
  obtain ⟨h2, h3⟩ := He.ba h2
  obtain ⟨h3, h4⟩ := He.ba h3
  obtain ⟨h4, h5⟩ := He.ba h4
  have hm : (tabP K (l.at_ K), l.q) ∈ Lam.T K := by
    rw [hT]
    exact List.mem_map.mpr ⟨l, List.mem_of_getElem? e, rfl⟩
  refine ⟨_, tabP K (l.at_ K), of_decide_eq_true h1, h2, hm, fun p hp ep => ?_, by simpa using h4, fun base X2 => ?_⟩
  · rw [hT] at hp hm
    have u := List.all_eq_true.mp (List.all_eq_true.mp (He.ba hb).2 p hp) _ hm
    rw [ep] at u
    simpa using u
  · unfold bmB at h3
    split at h3
    · rename_i bm q
      obtain ⟨b1, h3⟩ := He.ba h3
      obtain ⟨b2, h3⟩ := He.ba h3
      obtain ⟨b3, h3⟩ := He.ba h3
      split at h3
      · rename_i d sl lk
        have hd : d = builtinsNs := of_decide_eq_true h3
        exact ⟨bm, _, PySem.W.mg_of X G q, by simpa using b1, by simpa using b2, by simpa using b3, X2 _ _ lk, rfl, congrArg some hd, rfl⟩
      · cases h3
    · cases h3
section
variable {fa : List He.Fa} {tb : List (PySem.W.Frag → Bool)} {fn : List DefM} {K : PySem.W.Frag}
theorem SaysM.parts (c : SaysM fa tb fn K) : (fa.all fun f => f.ok K) = true ∧ (tb.all fun t => t K) = true ∧ (fn.all fun d => d.ok K) = true := by
  obtain ⟨h1, h2⟩ := He.ba (show ((fa.all fun f => f.ok K) && ((tb.all fun t => t K) && fn.all fun d => d.ok K)) = true from congrArg (fun z : AlM => z.1) c)
  exact ⟨h1, He.ba h2⟩
theorem SaysM.fact (c : SaysM fa tb fn K) (i : Nat) {f : He.Fa} (h : fa[i]? = some f := by rfl) : f.ok K = true := List.all_eq_true.mp c.parts.1 f (List.mem_of_getElem? h)
theorem SaysM.test (c : SaysM fa tb fn K) (i : Nat) {t : PySem.W.Frag → Bool} (h : tb[i]? = some t := by rfl) : t K = true := List.all_eq_true.mp c.parts.2.1 t (List.mem_of_getElem? h)
theorem SaysM.def_ (c : SaysM fa tb fn K) (i : Nat) {d : DefM} (h : fn[i]? = some d := by rfl) : ∃ fd, FunD K d.name d.qual d.params d.body d.scope (d.dvs K) [] (d.at_ K) fd := by
  have e : fn.map (fun d => fnM K (d.at_ K)) = fn.map DefM.val := congrArg (fun z : AlM => z.2) c
  have e2 : (fn.map fun d => fnM K (d.at_ K))[i]? = (fn.map DefM.val)[i]? := by rw [e]
  rw [List.getElem?_map, List.getElem?_map, h] at e2
  exact DefM.funD (Option.some.inj e2) (List.all_eq_true.mp c.parts.2.2 d (List.mem_of_getElem? h))
end
/-- a law's end: the function that its def computes answers true at every script -/
theorem walk_endM {l : PySem.W.OpenLaw} {n k dep : Nat} {q : Program} {loose : List Str} {XP : (Str → Option Value) → Heap → Prop} {fas : List He.Fa} {tbs : List (PySem.W.Frag → Bool)} {fns : List DefM} {ls : List LamM} {wd : WdL} {d : DefRec} {x : Str} {m : List D → FR D}
    (hT : ∀ K, Lam.T K = lamT ls K) (hn : l.most = some n) (hn2 : n ≤ sizeLine) (hdf : d.params.defaults = []) (hr : RoomG k callerA)
    (F : ∀ (w : World) (K : PySem.W.Frag) (mg : Str → Option Value) (h : Heap) (fa : Addr), K.In h → h.Ns mainGlobals mg → SaysM fas tbs fns K → lamB ls K = true → WdAt wd w K → mg d.name = some (.ref fa) →
      ∃ fd : FuncData, (∀ (s : Shared) (u : Value), BindsTo s fd ⟨[u], []⟩ [(x, u)]) ∧ ∀ base : Heap, FnG l.prog w K mg base k fa fd [x] (PSp K 1 m))
    (hm : ∀ ns : List Int, ns.length ≤ n → (∀ z ∈ ns, Builtin.Int.intBits z ≤ 1048576) → m [.frz (ns.map .int)] = .ok (.bl true)) :
    PySem.W.WalkO q loose XP (hookM dep fas tbs fns ls wd).says l.row.toRowW d [] (fun f vs => PySem.call f vs) := by
  refine Att.attach_callB hn hdf fun w s₀ s₁ mg mb fa o pm cd doc a vs ns G Y ho hd hcd hmg hobj hints hlen hbits hg => ?_
  obtain ⟨K, KX, c, ⟨l1, l2⟩, dW⟩ := Y
  obtain ⟨fd, hb, hF⟩ := F w K mg _ fa KX G.T.g c l1 dW hmg
  refine law_callG ((Lam.T K).map (·.1)) (fun P hP => ?_) KX G.T.g G.T.b G.T.builtins G.T.nolimit hg hobj hints (Nat.le_trans hlen hn2) hr hF hb (fun H hH hS => law_psp hH hS (hm ns hlen hbits)) fun H e s' hc => ?_
  · obtain ⟨p, hp, rfl⟩ := List.mem_map.mp hP
    rw [hT] at hp
    have g := l2 p hp
    obtain ⟨y, hy, rfl⟩ := List.mem_map.mp hp
    obtain ⟨_, h2⟩ := He.ba (List.all_eq_true.mp (He.ba l1).1 y hy)
    obtain ⟨h2, h3⟩ := He.ba h2
    obtain ⟨_, h4⟩ := He.ba h3
    obtain ⟨_, h5⟩ := He.ba h4
    exact ⟨⟨_, h2⟩, Option.isNone_iff_eq_none.mp h5, g⟩
  · obtain ⟨_, _, _, _, _, _, _, _, _, _, _, _, h⟩ := hc
    exact h.elim
end Mr
/-! Mr19: several stores at once, new lists among them; raises; stores beside. -/
namespace Mr
open PySem PySem.Spec PyProof.Rows L2
variable [Lam] [Pins]
/-- a value, a new list -/
inductive MV where
  | v (d : D)
  | n (ds : List D)
inductive MRep (K : PySem.W.Frag) (F : Hp) : List (Addr × HO) → List V → List MV → Prop where
  | nil : MRep K F [] [] []
  | v {xs : List (Addr × HO)} {vs : List V} {ms : List MV} {u : V} {d : D} : Rep K F u d → MRep K F xs vs ms → MRep K F xs (u :: vs) (.v d :: ms)
  | n {xs : List (Addr × HO)} {vs ws : List V} {ms : List MV} {a : Addr} {ds : List D} : Reps K F ws ds → MRep K F xs vs ms → MRep K F ((a, .lst ws) :: xs) (.ref a :: vs) (.n ds :: ms)
theorem Stt.xtPerm {K : PySem.W.Frag} {H0 F0 : Hp} {io : List (Nat × Addr)} {xt xt' : List (Addr × HO)} {σ : St} {H F : Hp} {ρ : Ro} (S : Stt K ⟨H0, F0, io, xt⟩ σ H F ρ) (p : List.Perm xt xt') : Stt K ⟨H0, F0, io, xt'⟩ σ H F ρ :=
  ⟨S.sub, S.ft, S.tb, S.same, S.ext, S.new, S.len, S.at_, S.dis, S.fresh, S.io, fun q hq => S.xt q (p.mem_iff.mpr hq), fun q hq => S.xx q (p.mem_iff.mpr hq), (p.map _).nodup_iff.mp S.xtd, S.pin⟩
section
variable {X : Cx} {W : WX} {e : Expr} {es : List Expr} {pos : Pos}
def AM (X : Cx) (W : WX) (es : List Expr) (f : M (List MV)) : Prop := ∃ t, PA X es t ∧ ∀ G σ H F ρ Q, Stt X.K G σ H F ρ →
  Good X.K G W σ F (f ρ) (fun ms ρ' H' F' => ∀ vs xs H2, Stt X.K ⟨G.H0, G.F0, G.io, xs ++ G.xt⟩ σ H2 F' ρ' → MRep X.K F' xs vs ms → Q vs H2) → t σ H Q
def mMV (f : M D) (r : M (List MV)) : M (List MV) := fun ρ => (f ρ).bind fun d ρ => (r ρ).bind fun ms ρ => .ok (.v d :: ms) ρ
def mMN (f : M (List D)) (r : M (List MV)) : M (List MV) := fun ρ => (f ρ).bind fun ds ρ => (r ρ).bind fun ms ρ => .ok (.n ds :: ms) ρ
def mMNil : M (List MV) := fun ρ => .ok [] ρ
theorem MRep.mono {K : PySem.W.Frag} {F F' : Hp} (s : Sm F F') : ∀ {xs : List (Addr × HO)} {vs : List V} {ms : List MV}, MRep K F xs vs ms → MRep K F' xs vs ms
  | _, _, _, .nil => .nil
  | _, _, _, .v r t => .v (r.mono s) (t.mono s)
  | _, _, _, .n r t => .n (r.mono s) (t.mono s)
theorem AM.nil : AM X W [] mMNil := ⟨_, pa_nil, fun G σ H F ρ Q S hg => hg H F S Sm.refl [] [] H S .nil⟩
theorem AM.v {fe : M D} {fs : M (List MV)} (he : AE X W e fe) (hr : AM X W es fs) (hs : starEach (e :: es) X.env = (false, eval e X.env) :: starEach es X.env := by rfl) : AM X W (e :: es) (mMV fe fs) := by
  obtain ⟨t, pe, qe⟩ := he
  obtain ⟨u, pr, qr⟩ := hr
  refine ⟨_, pa_cons pe pr hs, fun G σ H F ρ Q S hg => qe G σ H F ρ _ S (hg.bind fun d ρ1 H1 F1 S1 s1 g1 v r1 => qr G σ H1 F1 ρ1 _ S1 (g1.bind fun ms ρ2 H2 F2 S2 s2 g2 vs xs H3 S3 rm => ?_))⟩
  exact g2 H2 F2 S2 Sm.refl _ _ H3 S3 (.v (r1.mono s2) rm)
theorem AM.n {fe : M (List D)} {fs : M (List MV)} (he : AN X W e fe) (hr : AM X W es fs) (hs : starEach (e :: es) X.env = (false, eval e X.env) :: starEach es X.env := by rfl) : AM X W (e :: es) (mMN fe fs) := by
  obtain ⟨t, pe, qe⟩ := he
  obtain ⟨u, pr, qr⟩ := hr
  refine ⟨_, pa_cons pe pr hs, fun G σ H F ρ Q S hg => qe G σ H F ρ _ S (hg.bind fun ds ρ1 H1 F1 S1 s1 g1 a ws H2 S2 r => ?_)⟩
  have key : Good X.K ⟨G.H0, G.F0, G.io, (a, .lst ws) :: G.xt⟩ W σ F1 (fs ρ1) (fun ms ρ' H' F' => ∀ vs xs H2, Stt X.K ⟨G.H0, G.F0, G.io, xs ++ (a, .lst ws) :: G.xt⟩ σ H2 F' ρ' → MRep X.K F' xs vs ms → Q (.ref a :: vs) H2) := by
    have g1 : Good X.K G W σ F1 ((fs ρ1).bind fun ms ρ => .ok (MV.n ds :: ms) ρ) _ := g1
    cases ef : fs ρ1 with
    | ok ms ρ2 =>
      rw [ef] at g1
      refine fun H' F' S' s' vs xs H3 S3 rm => ?_
      have S4 : Stt X.K ⟨G.H0, G.F0, G.io, ((a, .lst ws) :: xs) ++ G.xt⟩ σ H3 F' ρ2 := S3.xtPerm (by
        rw [List.cons_append]
        exact List.perm_middle)
      have drop : ∀ (l : List (Addr × HO)), Stt X.K ⟨G.H0, G.F0, G.io, l ++ G.xt⟩ σ H3 F' ρ2 → Stt X.K G σ H3 F' ρ2 := fun l => by
        induction l with
        | nil => exact id
        | cons q l ih => exact fun S => ih S.xtDrop
      exact g1 H3 F' (drop _ S4) s' _ _ H3 S4 (.n (r.mono s') rm)
    | exc x ρ2 =>
      rw [ef] at g1
      exact fun d H' F' S' s' xa => g1 d H' F' S'.xtDrop s' xa
    | stuck => rw [ef] at g1; exact g1.elim
  exact qr ⟨G.H0, G.F0, G.io, (a, .lst ws) :: G.xt⟩ σ H2 F1 ρ1 _ S2 key
def putMs : List Nat → List MV → Ro → R Fl
  | [], [], ρ => .ok .nx ρ
  | i :: is, .v d :: ms, ρ => if (ρ.getD i .un).isIo = true then .stuck else putMs is ms (ρ.set i (.val d))
  | i :: is, .n ds :: ms, ρ => if (ρ.getD i .un).isIo = true then .stuck else putMs is ms (ρ.set i (.own false ds))
  | _, _, _ => .stuck
def setVsσ : List Nat → List V → St → St
  | i :: is, v :: vs, σ => setVsσ is vs (σ.set i (some v))
  | _, _, σ => σ
theorem putMs_good {K : PySem.W.Frag} {H0 F0 H F : Hp} {io : List (Nat × Addr)} {xt : List (Addr × HO)} {Dn : Ends} {ms : List MV} {vs : List V} {xs : List (Addr × HO)} (rm : MRep K F xs vs ms) : ∀ {is : List Nat} {σ : L2.St} {ρ : Ro}, Stt K ⟨H0, F0, io, xs ++ xt⟩ σ H F ρ →
    GoodS K ⟨H0, F0, io, xt⟩ W F (putMs is ms ρ) Dn → vs.length = is.length ∧ Dn.nx (setVsσ is vs σ) H := by
  induction rm with
  | nil =>
    intro is σ ρ S hg
    cases is with
    | nil => exact ⟨rfl, hg σ H F S Sm.refl⟩
    | cons i is => exact hg.elim
  | v r t ih =>
    intro is σ ρ S hg
    cases is with
    | nil => exact hg.elim
    | cons i is =>
      unfold putMs at hg
      split at hg
      · exact hg.elim
      · rename_i h
        obtain ⟨l, q⟩ := ih (S.setVal (i := i) (by simpa using h) r) hg
        exact ⟨by rw [List.length_cons, List.length_cons, l], q⟩
  | n r t ih =>
    rename_i xs1 vs1 ws ms1 a ds
    intro is σ ρ S hg
    cases is with
    | nil => exact hg.elim
    | cons i is =>
      unfold putMs at hg
      split at hg
      · exact hg.elim
      · rename_i h
        obtain ⟨e1, e2, _, _⟩ := S.xt (a, .lst ws) (List.mem_cons_self ..)
        have S2 : Stt K ⟨H0, F0, io, xs1 ++ xt⟩ (σ.set i (some (V.ref a))) H F (ρ.set i (.own false ds)) := Stt.xtSlot (a := a) (o := .lst ws) (xt := xs1 ++ xt) S (by simpa using h) ⟨a, ws, rfl, e1, e2, r⟩ rfl
        obtain ⟨l, q⟩ := ih S2 hg
        exact ⟨by rw [List.length_cons, List.length_cons, l], q⟩
def xParM (is : List Nat) (fs : M (List MV)) : M Fl := fun ρ => (fs ρ).bind fun ms ρ => putMs is ms ρ
theorem AM.fin {t : TA} {is : List Nat} {fs : M (List MV)} (q : ∀ G σ H F ρ Q, Stt X.K G σ H F ρ → Good X.K G W σ F (fs ρ) (fun ms ρ' H' F' => ∀ vs xs H2, Stt X.K ⟨G.H0, G.F0, G.io, xs ++ G.xt⟩ σ H2 F' ρ' → MRep X.K F' xs vs ms → Q vs H2) → t σ H Q)
    {G : Ent} {σ : L2.St} {H F : Hp} {ρ : Ro} {Dn : Ends} (S : Stt X.K G σ H F ρ) (hg : GoodS X.K G W F (xParM is fs ρ) Dn) : t σ H fun vs H1 => vs.length = is.length ∧ Dn.nx (setVsσ is vs σ) H1 := by
  refine q G σ H F ρ _ S ?_
  have hg : GoodS X.K G W F ((fs ρ).bind fun ms ρ => putMs is ms ρ) Dn := hg
  cases ef : fs ρ with
  | ok ms ρ1 =>
    rw [ef] at hg
    exact fun H' F' S' s' vs xs H2 S2 rm => putMs_good rm S2 (GoodS.mono s' hg)
  | exc x ρ1 =>
    rw [ef] at hg
    exact fun d H' F' S' s' xa => hg d σ H' F' S' s' xa
  | stuck => rw [ef] at hg; exact hg.elim
theorem AS.parM2 {i j : Nat} {x y : Str} {a b : Expr} {fs : M (List MV)} {px py pt : Pos} {kt k2 pt2} (hc : X.calm = true) (hN : X.N.Nodup) (hi : X.N[i]? = some x) (hj : X.N[j]? = some y) (hij : i ≠ j)
    (hx : X.env.scope.names.lookup x = some .local) (hy : X.env.scope.names.lookup y = some .local) (ha : AM X W [a, b] fs)
    (hw : swappedStores [.Tuple [.Name x px, .Name y py] kt pt] (.Tuple [a, b] k2 pt2) X.env = pure (some [x, y]) := by rfl)
    (hs : swapsWithSole [.Tuple [.Name x px, .Name y py] kt pt] (.Tuple [a, b] k2 pt2) pos.line X.env = pure false := by rfl) :
    AS X W (.Assign [.Tuple [.Name x px, .Name y py] kt pt] (.Tuple [a, b] k2 pt2) pos) (xParM [i, j] fs) := by
  obtain ⟨t, p, q⟩ := ha
  refine ⟨_, ps_par hc hN hi hj hij hx hy p hw hs, fun G σ H F ρ Dn S hg => ?_⟩
  have r := AM.fin q S hg
  have em : (fun (vs : List V) (H1 : Hp) => vs.length = [i, j].length ∧ Dn.nx (setVsσ [i, j] vs σ) H1) = fun vs H1 => ∃ v w, vs = [v, w] ∧ Dn.nx ((σ.set i (some v)).set j (some w)) H1 := by
    funext vs H1
    match vs with
    | [] => exact propext ⟨fun z => by simp at z, fun ⟨_, _, z, _⟩ => by cases z⟩
    | [_] => exact propext ⟨fun z => by simp at z, fun ⟨_, _, z, _⟩ => by cases z⟩
    | [v, w] => exact propext ⟨fun z => ⟨v, w, rfl, z.2⟩, fun ⟨_, _, z, q⟩ => by cases z; exact ⟨rfl, q⟩⟩
    | _ :: _ :: _ :: _ => exact propext ⟨fun z => by simp at z, fun ⟨_, _, z, _⟩ => by cases z⟩
  rw [em] at r
  exact r
theorem AS.parM3 {i j l : Nat} {x y z : Str} {a b c : Expr} {fs : M (List MV)} {px py pz pt : Pos} {kt k2 pt2} (hc : X.calm = true) (hN : X.N.Nodup) (hi : X.N[i]? = some x) (hj : X.N[j]? = some y) (hl : X.N[l]? = some z) (hij : i ≠ j) (hil : i ≠ l) (hjl : j ≠ l)
    (hx : X.env.scope.names.lookup x = some .local) (hy : X.env.scope.names.lookup y = some .local) (hz : X.env.scope.names.lookup z = some .local) (ha : AM X W [a, b, c] fs)
    (hw : swappedStores [.Tuple [.Name x px, .Name y py, .Name z pz] kt pt] (.Tuple [a, b, c] k2 pt2) X.env = pure (some [x, y, z]) := by rfl)
    (hs : swapsWithSole [.Tuple [.Name x px, .Name y py, .Name z pz] kt pt] (.Tuple [a, b, c] k2 pt2) pos.line X.env = pure false := by rfl) :
    AS X W (.Assign [.Tuple [.Name x px, .Name y py, .Name z pz] kt pt] (.Tuple [a, b, c] k2 pt2) pos) (xParM [i, j, l] fs) := by
  obtain ⟨t, p, q⟩ := ha
  refine ⟨_, ps_par3 hc hN hi hj hl hij hil hjl hx hy hz p hw hs, fun G σ H F ρ Dn S hg => ?_⟩
  have r := AM.fin q S hg
  have em : (fun (vs : List V) (H1 : Hp) => vs.length = [i, j, l].length ∧ Dn.nx (setVsσ [i, j, l] vs σ) H1) = fun vs H1 => ∃ u v w, vs = [u, v, w] ∧ Dn.nx (((σ.set i (some u)).set j (some v)).set l (some w)) H1 := by
    funext vs H1
    match vs with
    | [] => exact propext ⟨fun z => by simp at z, fun ⟨_, _, _, z, _⟩ => by cases z⟩
    | [_] => exact propext ⟨fun z => by simp at z, fun ⟨_, _, _, z, _⟩ => by cases z⟩
    | [_, _] => exact propext ⟨fun z => by simp at z, fun ⟨_, _, _, z, _⟩ => by cases z⟩
    | [u, v, w] => exact propext ⟨fun z => ⟨u, v, w, rfl, z.2⟩, fun ⟨_, _, _, z, q⟩ => by cases z; exact ⟨rfl, q⟩⟩
    | _ :: _ :: _ :: _ :: _ => exact propext ⟨fun z => by simp at z, fun ⟨_, _, _, z, _⟩ => by cases z⟩
  rw [em] at r
  exact r
/-! ### raises -/
/-- raise C("..") -/
def xRaise (c : Str) : M Fl := fun ρ => .exc ⟨.own c, []⟩ ρ
/-- .. not covered -/
def xRaiseX (c : Str) (fs : M (List D)) : M Fl := fun _ => .stuck
theorem AS.raiseX {st : Stmt} {c : Str} {fs : M (List D)} : AS X W st (xRaiseX c fs) := AS.never
structure ExcF (K : PySem.W.Frag) (c : Str) : Prop where
  q : PySem.W.excIn K (He.ga K c) He.veBase "ValueError.__new__" = true
  k : PySem.W.keepIn K (.ref (He.ga K c)) = true
  s : PySem.W.subIn K (.ref (He.ga K c)) (.type "BaseException") = some true
  t : PySem.W.typeIn K (.ref (He.ga K c)) = some (.type "type")
section
variable {X : Cx} {W : WX}
theorem AS.raise {c m : Str} {j : Nat} {p p2 pos pos' : Pos} (hc : X.calm = true) (tk : Takes X W) (E : ExcF X.K c) (mc : X.mg c = some (.ref (He.ga X.K c))) (gc : Gl X c) (hdb : (c == ("__debug__" : Str)) = false := by decide) :
    AS X W (.Raise (some (.Call (.Name c p) [.Constant (.str m) j p2] [] pos)) none pos') (xRaise c) := by
  refine ⟨_, ps_raise hc tk (pmk_own PySem.F.excBase_ValueError E.q mc E.k (raises_own E.s E.t) gc hdb), fun G σ H F ρ Dn S hg => ?_⟩
  exact hg none σ H F S Sm.refl (.inl ⟨rfl, rfl⟩)
end
theorem exc_of {K : PySem.W.Frag} {c : Str} (h : (He.Fa.exc c).ok K = true) : ExcF K c := let ⟨a, b, d, e⟩ := He.exc_ok h; ⟨a, b, d, e⟩
end
end Mr
/-! Mr20: x op= e, a new list lent to a def that changes it, methods without arguments. -/
namespace Mr
open PySem PySem.Spec PyProof.Rows L2
variable [Lam] [Pins]
section
variable {X : Cx} {W : WX} {k n : Nat} {f : Addr} {fd : FuncData} {ps : List Str} {x y : Str} {p py pos : Pos} {e o : Expr} {fe : M D} {fs : M (List D)} {mi : SV → List D → IR}
/-! ### x op= e -/
def IA (X : Cx) (W : WX) (op : Operator) (g : D → D → FR D) : Prop := OA X W (inplaceOp op) g
def mulSD : D → D → FR D
  | .int i, .int j => if ((-18446744073709551616 < i ∧ i < 18446744073709551616) ∨ (-18446744073709551616 < j ∧ j < 18446744073709551616)) then .ok (.int (i * j)) else .stuck
  | _, _ => .stuck
def addSD : D → D → FR D
  | .int i, .int j => .ok (.int (i + j))
  | .str a, .str b => if a.length + b.length ≤ sizeLine then .ok (.str (a ++ b)) else .stuck
  | _, _ => .stuck
theorem IA.add : IA X W .Add addSD := by
  refine ⟨_, OpR.or iop_add iop_add_str, fun G σ H F ρ x y dx dy Q S rx ry hg => ?_⟩
  unfold addSD at hg
  split at hg
  · cases rx; cases ry
    exact .inl ⟨_, _, rfl, rfl, hg H F S Sm.refl _ (.int _)⟩
  · cases rx; cases ry
    split at hg
    · rename_i h
      exact .inr ⟨_, _, rfl, rfl, h, hg H F S Sm.refl _ (.str _)⟩
    · exact hg.elim
  · exact hg.elim
theorem IA.sub : IA X W .Sub subD := by
  refine ⟨_, iop_sub, fun G σ H F ρ x y dx dy Q S rx ry hg => ?_⟩
  unfold subD at hg
  split at hg
  · cases rx; cases ry
    exact ⟨_, _, rfl, rfl, hg H F S Sm.refl _ (.int _)⟩
  · exact hg.elim
theorem IA.mul : IA X W .Mult mulSD := by
  refine ⟨_, iop_mul, fun G σ H F ρ x y dx dy Q S rx ry hg => ?_⟩
  unfold mulSD at hg
  split at hg
  · cases rx; cases ry
    split at hg
    · rename_i h
      refine ⟨_, _, rfl, rfl, ?_, hg H F S Sm.refl _ (.int _)⟩
      rcases h with h | h
      · exact .inl ⟨by omega, by omega⟩
      · exact .inr ⟨by omega, by omega⟩
    · exact hg.elim
  · exact hg.elim
theorem AS.aug {i : Nat} {op : Operator} {g : D → D → FR D} {pos' : Pos} (hN : X.N.Nodup) (hi : X.N[i]? = some x) (hx : Loc X.env.scope x) (he : AE X W e fe) (ho : IA X W op g) (hf : X.fn x = true ∨ X.env.scope.names.lookup x = some .local := by first | exact .inl rfl | exact .inr rfl | assumption) :
    AS X W (.AugAssign (.Name x pos') op e pos) (xAug g i fe) := by
  obtain ⟨t, pe, qe⟩ := he
  obtain ⟨r, pr, qr⟩ := ho
  refine ⟨_, ps_aug hN hi hx pe (fun pins s σ H a b v u Q I ra rb h => pr pins s σ H a b v u Q I ra rb h) hf, fun G σ H F ρ Dn S hg => ?_⟩
  unfold xAug at hg
  cases es : ρ.getD i .un with
  | val d =>
    simp only [es] at hg
    have q := S.at_ i
    rw [es] at q
    obtain ⟨v, ev, rv⟩ := q
    refine ⟨v, ev, qe G σ H F ρ _ S (GoodS.bind hg fun y ρ1 H1 F1 S1 s1 g1 w rw_ => ?_)⟩
    refine qr G σ H1 F1 ρ1 v w d y _ S1 (rv.mono s1) rw_ (GoodS.bind g1 fun z ρ2 H2 F2 S2 s2 g2 u ru => ?_)
    unfold putT at g2
    split at g2
    · exact g2.elim
    · rename_i h
      exact g2 _ H2 F2 (S2.setVal (by simpa using h) ru) Sm.refl
  | _ => simp only [es] at hg; exact hg.elim
/-! ### f(a new list), f changes it -/
def mIoT (mi : SV → List D → IR) (fs : M (List D)) : M D := fun ρ => (fs ρ).bind fun ds ρ => match mi (.own true ds) [] with
  | .ok d _ => .ok d ρ
  | .exc x _ => .exc x ρ
  | .stuck => .stuck
theorem AE.callIoT (Fn : FnG X.prog X.w X.K X.mg X.base k f fd ps (ISp X.K 0 mi)) (hr : RoomG k X.A) (hg : Gl X x) (hm : X.mg x = some (.ref f)) (hk : PySem.W.keepIn X.K (.ref f) = true) (hb : Binds X.K fd ps []) (tk : Takes X W)
    (ha : AN X W e fs) (hdb : (x == ("__debug__" : Str)) = false := by decide) (he : starEach [e] X.env = (false, eval e X.env) :: starEach [] X.env := by rfl) (hpl : (backTo pos (starEach [] X.env)).any (·.1) = false := by rfl) :
    AE X W (.Call (.Name x p) [e] [] pos) (mIoT mi fs) := by
  obtain ⟨t, pa, qa⟩ := ha
  refine ⟨_, pe_callW (W := W) Fn hr hg hm hk hb .nil tk (pa_cons pa pa_nil he) hdb he hpl, fun G σ H F ρ Q S hgd => qa G σ H F ρ _ S (hgd.bind fun ds ρ1 H1 F1 S1 s1 g1 a vs H2 S2 r => ?_)⟩
  obtain ⟨e1, e2, e3, e4⟩ := S2.xt (a, .lst vs) (List.mem_cons_self ..)
  refine ⟨rfl, F1, a, [], .own true ds, [], rfl, S2.pre, ⟨a, vs, rfl, e1, e2, r⟩, rfl, .nil, ?_⟩
  have back : ∀ {sv : SV} {H' F' : Hp}, AftIo X.K a sv H2 F1 H' F' → Stt X.K G σ H' F' ρ1 := fun {sv H' F'} A => by
    obtain ⟨b, u, f1, f2, f3, f4⟩ := A.at_.there (SV.own_of_io A.own)
    cases f1
    have S3 := S2.xtUpd (o' := u) f4
    refine (S3.grow (H' := H') (F' := F') ⟨fun b w h n => ?_, fun _ => A.h.t S2.tb⟩ A.sub A.f (fun b w h => ?_) (A.ft S2.ft)).xtDrop
    · by_cases z : b = a
      · subst z; rw [upd_same] at h; cases h; exact f2
      · rw [upd_ne z] at h; exact A.h.k b w z h n
    · rcases A.new b w h with q | q
      · exact .inl q
      · refine .inr fun o e => ?_
        rw [upd_ne (fun z => by subst z; rw [f3] at h; cases h)] at e; exact q o e
  cases em : mi (.own true ds) [] with
  | ok d sv =>
    rw [em] at g1
    exact fun v H' F' A rv => g1 H' F' (back A) A.f v rv
  | exc xx sv =>
    rw [em] at g1
    exact fun d H' F' A rv => g1 d H' F' (back A) A.f rv
  | stuck => rw [em] at g1; exact g1
end
end Mr
/-! Mr21: zip over lists and tuples, mixed. -/
namespace Mr
open PySem PySem.Spec PyProof.Rows L2
variable [Lam] [Pins]
inductive Kd where
  | l | t
def SqK (K : PySem.W.Frag) : Kd → Hp → Addr → List V → Prop
  | .l => SqL K
  | .t => SqT K
def IsK (kd : Kd) (h : Heap) (a : Addr) (its : Array Value) : Prop := match kd with
  | .l => h.IsList a its
  | .t => h.IsTuple a its
def ItK (kd : Kd) (h : Heap) (it a : Addr) (i : Nat) : Prop := match kd with
  | .l => h.IsListIter it a i
  | .t => h.IsTupleIter it a i
def itO (kd : Kd) (a : Addr) : Obj := match kd with
  | .l => { cls := .type "list_iterator", data := .fields #[.ref a, .int 0 0] }
  | .t => { cls := .type "tuple_iterator", data := .fields #[.ref a, .int 0 0] }
section
variable {prog : Program} {w : World} {A : Around} {kd : Kd}
theorem drawsK (hh : A.handled = none) (it a : Addr) (ne : a ≠ it) (its : Array Value) : Draws prog w A it [it, a] its.size (fun i v => its[i]? = some v) (fun i h => ItK kd h it a i ∧ IsK kd h a its) := match kd with
  | .l => Draws.list hh it a ne its
  | .t => Draws.tuple hh it a ne its
theorem beginsK (a : Addr) (its : Array Value) : Begins (.ref a) (itO kd a) fun h => IsK kd h a its := match kd with
  | .l => begins_list a its
  | .t => begins_tuple a its
theorem itK_at {h : Heap} {it a : Addr} {i : Nat} (r : ItK kd h it a i) : ∃ o fs, h.get? it = some o ∧ o.data = .fields fs := match kd, r with
  | .l, ⟨o, e, _, d⟩ => ⟨o, _, e, d⟩
  | .t, ⟨o, e, _, d⟩ => ⟨o, _, e, d⟩
theorem itK_keep {h h' : Heap} {it a : Addr} {i : Nat} (r : ItK kd h it a i) (k : ∀ o, h.get? it = some o → h'.get? it = some o) : ItK kd h' it a i := match kd, r with
  | .l, r => r.at fun o q => k o q
  | .t, r => r.at fun o q => k o q
theorem itK_new {h : Heap} {it a : Addr} (e : h.get? it = some (itO kd a)) : ItK kd h it a 0 := match kd, e with
  | .l, e => ⟨_, e, rfl, rfl⟩
  | .t, e => ⟨_, e, rfl, rfl⟩
end
section
variable {X : Cx} {W : WX}
theorem sqK_heap {pins : List (Addr × Obj)} {σ : L2.St} {H : Hp} {s : Shared} {kd : Kd} {a : Addr} {xs : List V} (I : Inv X pins σ H s) (h : SqK X.K kd H a xs) : ∃ its : List Value, Vals xs its ∧ IsK kd s.heap a its.toArray := by
  cases kd with
  | l => obtain ⟨its, rv, p, _⟩ := I.list h; exact ⟨its, rv, p.isList⟩
  | t => obtain ⟨its, rv, p, _⟩ := I.tuple h; exact ⟨its, rv, p⟩
theorem sqK_inj {pins : List (Addr × Obj)} {σ : L2.St} {H : Hp} {s : Shared} {kd : Kd} {a : Addr} {xs ys : List V} (I : Inv X pins σ H s) (h : SqK X.K kd H a xs) (h' : SqK X.K kd H a ys) : xs = ys := by
  cases kd with
  | l => exact I.list_inj h h'
  | t => exact I.tuple_inj h h'
theorem isK_at {h : Heap} {kd : Kd} {a : Addr} {its : Array Value} (r : IsK kd h a its) : ∃ o, h.get? a = some o := by
  cases kd with
  | l => obtain ⟨o, e, _⟩ := r; exact ⟨o, e⟩
  | t => obtain ⟨o, e, _⟩ := r; exact ⟨o, e⟩
/-- the sequences at a and b, the items in new pairs -/
def ItzK (K : PySem.W.Frag) (k1 k2 : Kd) (a b : Addr) : It :=
  ⟨fun i H => ∃ (xs ys : List V) (x y : V), SqK K k1 H a xs ∧ SqK K k2 H b ys ∧ xs[i]? = some x ∧ ys[i]? = some y,
    fun i H v H' => ∃ T x y, v = .ref T ∧ H T = none ∧ H' = upd H T (.tup [x, y]) ∧ (∀ xs, SqK K k1 H a xs → xs[i]? = some x) ∧ ∀ ys, SqK K k2 H b ys → ys[i]? = some y,
    fun i H => ∃ xs ys : List V, SqK K k1 H a xs ∧ SqK K k2 H b ys ∧ i ≤ xs.length ∧ i ≤ ys.length ∧ (i = xs.length ∨ i = ys.length)⟩
theorem turn_zipK {P : Program} {w : World} {K : PySem.W.Frag} {elts : List Expr} {kk : Nat} {tpos : Pos} {k1 k2 : Kd} {a b z TI TO i1 i2 : Addr} (D : ZipSep2 z TI TO i1 i2 [i1, a] [i2, b]) (na : a ≠ i1) (nb : b ≠ i2) :
    Turn P w K (.Tuple elts kk tpos) (ItzK K k1 k2 a b) [z, TI, TO, i1, i2] z (fun i h => IsZip h z TI TO .none ∧ IsTupOf2 h TI (.ref i1) (.ref i2) ∧ (∃ x y, IsTupOf2 h TO x y) ∧ ItK k1 h i1 a i ∧ ItK k2 h i2 b i) where
  mem := by simp
  obj := fun i h st c hc => by
    obtain ⟨hz, hTI, ⟨x, y, hTO⟩, s1, s2⟩ := st
    rcases (by simpa using hc : c = z ∨ c = TI ∨ c = TO ∨ c = i1 ∨ c = i2) with rfl | rfl | rfl | rfl | rfl
    · exact ⟨_, hz, fun v q => nomatch q⟩
    · exact ⟨_, hTI, fun v q => nomatch q⟩
    · exact ⟨_, hTO, fun v q => nomatch q⟩
    · obtain ⟨o, fs, e, n⟩ := itK_at s1; exact ⟨o, e, fun v q => by rw [n] at q; cases q⟩
    · obtain ⟨o, fs, e, n⟩ := itK_at s2; exact ⟨o, e, fun v q => by rw [n] at q; cases q⟩
  keep := fun i h h' st k => by
    obtain ⟨hz, hTI, ⟨x, y, hTO⟩, s1, s2⟩ := st
    exact ⟨k z (by simp) _ hz, k TI (by simp) _ hTI, ⟨x, y, k TO (by simp) _ hTO⟩, itK_keep s1 fun o q => k i1 (by simp) o q, itK_keep s2 fun o q => k i2 (by simp) o q⟩
  item := by
    intro X hP hw hK hc i pins s σ H E I hf st hg
    subst hP hw hK
    obtain ⟨hz, hTI, ⟨x0, y0, hTO⟩, s1, s2⟩ := st
    obtain ⟨xs, ys, x, y, qx, qy, hx, hy⟩ := hg
    obtain ⟨its, rv, p1⟩ := sqK_heap I qx
    obtain ⟨its2, rv2, p2⟩ := sqK_heap I qy
    obtain ⟨u, hu, ru⟩ := rv.get hx
    obtain ⟨u2, hu2, ru2⟩ := rv2.get hy
    have lz : z < s.heap.objs.size := Heap.lt_size hz
    have hh : X.A.in1.handled = none := by simpa using I.ok.hd hc
    have b1 : i < its.toArray.size := by have := (List.getElem?_eq_some_iff.mp hu).1; simpa using this
    have b2 : i < its2.toArray.size := by have := (List.getElem?_eq_some_iff.mp hu2).1; simpa using this
    refine wpAny_pyNext_zipD2_item D (drawsK (kd := k1) hh i1 a na its.toArray) (drawsK (kd := k2) hh i2 b nb its2.toArray) hz hTI hTO ⟨s1, p1⟩ ⟨s2, p2⟩ b1 b2 fun v1 v2 h' tk e1 e2 hz' hTO' t1 t2 hT hsz hk => ?_
    have ev1 : v1 = u := by
      have : its[i]? = some v1 := by simpa using e1
      rw [hu] at this; cases this; rfl
    have ev2 : v2 = u2 := by
      have : its2[i]? = some v2 := by simpa using e2
      rw [hu2] at this; cases this; rfl
    subst ev1 ev2
    refine ⟨_, rfl, wpAny_letOwnedTupleGo_zip (s := { s with heap := h', toks := tk }) hz' fun h'' hz'' sb => ?_⟩
    have hT2 : h''.get? s.heap.objs.size = some { cls := .type "tuple", data := .seq #[v1, v2] } := (sb.2 _ (Nat.ne_of_gt lz)).trans hT
    have new : ObjOk X.prog X.w (upd H s.heap.objs.size (.tup [x, y])) h'' s.heap.objs.size (.tup [x, y]) :=
      ⟨by show 2 ≤ sizeLine; decide, [v1, v2], .cons ru (.cons ru2 .nil), ⟨_, hT2, rfl, _, rfl⟩⟩
    have nTI : ∀ {c : Addr}, c ≠ z → (h''.get? c = h'.get? c) := fun n => sb.2 _ n
    have J : Inv X pins σ (upd H s.heap.objs.size (.tup [x, y])) { s with heap := h'', toks := tk } :=
      I.turnedNew (ch := [z, TI, TO, i1, i2]) (fun c o hb q => (sb.2 c (fun q' => hb (by simp [q']))).trans (hk c o (fun q' => hb (by simp [q'])) (fun q' => hb (by simp [q'])) (fun q' => hb (by simp [q'])) (fun q' => hb (by simp [q'])) q)) hf (Nat.le_refl _) new
    refine ⟨.ref s.heap.objs.size, _, J, rfl, ⟨_, x, y, rfl, I.hok.fresh (Nat.le_refl _), rfl, fun l hl => by rw [sqK_inj I hl qx]; exact hx, fun l hl => by rw [sqK_inj I hl qy]; exact hy⟩, ⟨hz'', ?_, ⟨v1, v2, ?_⟩, ?_, ?_⟩, fun c hcm => ?_⟩
    · exact (sb.2 _ D.TIz).trans (hk _ _ D.TIz D.TITO D.TIi1 D.TIi2 hTI)
    · exact (sb.2 _ D.TOz).trans hTO'
    · exact itK_keep t1.1 fun o q => (sb.2 _ (fun e => D.zf1 (by rw [← e]; simp))).trans q
    · exact itK_keep t2.1 fun o q => (sb.2 _ (fun e => D.zf2 (by rw [← e]; simp))).trans q
    · have lt : c < s.heap.objs.size := by
        rcases (by simpa using hcm : c = z ∨ c = TI ∨ c = TO ∨ c = i1 ∨ c = i2) with rfl | rfl | rfl | rfl | rfl
        · exact lz
        · exact Heap.lt_size hTI
        · exact Heap.lt_size hTO
        · obtain ⟨o, _, e, _⟩ := itK_at s1; exact Heap.lt_size e
        · obtain ⟨o, _, e, _⟩ := itK_at s2; exact Heap.lt_size e
      rw [upd_ne (Nat.ne_of_lt lt)]
      exact (hf c hcm).1
  done := by
    intro X hP hw hK hc i pins s σ H E I hf st hg
    subst hP hw hK
    obtain ⟨hz, hTI, ⟨x0, y0, hTO⟩, s1, s2⟩ := st
    obtain ⟨xs, ys, qx, qy, l1, l2, le⟩ := hg
    obtain ⟨its, rv, p1⟩ := sqK_heap I qx
    obtain ⟨its2, rv2, p2⟩ := sqK_heap I qy
    have e1 : its.toArray.size = xs.length := by rw [List.size_toArray, rv.length]
    have e2 : its2.toArray.size = ys.length := by rw [List.size_toArray, rv2.length]
    have hh : X.A.in1.handled = none := by simpa using I.ok.hd hc
    exact wpAny_pyNext_zipD2_end D (drawsK (kd := k1) hh i1 a na its.toArray) (drawsK (kd := k2) hh i2 b nb its2.toArray) hz hTI hTO ⟨s1, p1⟩ ⟨s2, p2⟩ (by omega) (by omega) (by omega) fun h' tk hk => ⟨rfl, I.turnedL (t' := tk) (ch := [z, TI, TO, i1, i2]) (fun c o hb q =>
      hk c o (fun q' => hb (by simp [q'])) (fun q' => hb (by simp [q'])) (fun q' => hb (by simp [q'])) (fun q' => hb (by simp [q'])) q) hf⟩
  self := fun A i s Q E st h => wpAny_pyIter_zip st.1 h
def kdD : D → Option (Kd × List D)
  | .lst xs => some (.l, xs)
  | .frz xs => some (.l, xs)
  | .tup xs => some (.t, xs)
  | _ => none
def zipMD : List D → FR (List D)
  | [a, b] => match seqD a, seqD b with
    | some xs, some ys => .ok (xs.zipWith (fun x y => .tup [x, y]) ys)
    | _, _ => .stuck
  | _ => .stuck
theorem seqD_rep {K : PySem.W.Frag} {H : Hp} {v : V} {d : D} {xs : List D} (r : Rep K H v d) (h : seqD d = some xs) : ∃ kd a vs, v = .ref a ∧ SqK K kd H a vs ∧ Reps K H vs xs := by
  cases r <;> cases h
  · exact ⟨.t, _, _, rfl, by assumption, by assumption⟩
  · exact ⟨.l, _, _, rfl, SqL.of (by assumption), by assumption⟩
  · exact ⟨.l, _, _, rfl, by assumption, by assumption⟩
theorem SqKm {K : PySem.W.Frag} {H H' : Hp} {kd : Kd} {a : Addr} {xs : List V} (s : Sm H H') (h : SqK K kd H a xs) : SqK K kd H' a xs := by
  cases kd with
  | l => exact SqLm s h
  | t => exact SqTm s h
def iZipK (K : PySem.W.Frag) (ta : TA) : TI := fun σ H R => ta σ H fun vs H1 => ∃ k1 k2 a b xs ys, vs = [.ref a, .ref b] ∧ SqK K k1 H1 a xs ∧ SqK K k2 H1 b ys ∧ R (ItzK K k1 k2 a b) H1
theorem pi_zipK {e e2 : Expr} {ta : TA} {p pos tpos : Pos} {elts : List Expr} {kk : Nat} (hg : Gl X "zip") (hm : X.mg "zip" = none) (ha : PA X [e, e2] ta)
    (hs : starEach [e, e2] X.env = (false, eval e X.env) :: starEach [e2] X.env := by rfl) (hpl : (backTo pos (starEach [e2] X.env)).any (·.1) = false := by rfl) :
    PI X (.Tuple elts kk tpos) (.Call (.Name "zip" p) [e, e2] [] pos) (iZipK X.K ta) := by
  refine ⟨fun pins s σ H R I h => Call_ (ld_blt I hg hm (show bootBuiltins "zip" = some (.type "zip") by decide +kernel) (PyProof.Rows.callWith_type1 (thn (ha.run pos pins s σ H _ I h) fun us s1 ⟨vs, H1, I1, r1, q1⟩ => ?_) hs hpl))⟩
  obtain ⟨k1, k2, a, b, xs, ys, ex, hq1, hq2, q⟩ := q1
  subst ex
  obtain ⟨u1, u2, rfl, r1, r2⟩ : ∃ u1 u2, us = [u1, u2] ∧ RelV (.ref a) u1 ∧ RelV (.ref b) u2 := by
    cases r1 with
    | cons p q => cases q with
      | cons p' q' => cases q'; exact ⟨_, _, rfl, p, p'⟩
  cases r1; cases r2
  obtain ⟨its, rv, p1⟩ := sqK_heap I1 hq1
  obtain ⟨its2, rv2, p2⟩ := sqK_heap I1 hq2
  obtain ⟨o1, ho1⟩ := isK_at p1
  obtain ⟨o2, ho2⟩ := isK_at p2
  have la : a < s1.heap.objs.size := Heap.lt_size ho1
  have lb : b < s1.heap.objs.size := Heap.lt_size ho2
  refine zip_begins2 (beginsK (kd := k1) a its.toArray) (beginsK (kd := k2) b its2.toArray) p1 p2 fun h' hz hTI hTO e1 e2 hsz hk => wpAny_pyIter_zip hz ?_
  have I2 : Inv X pins σ H1 { s1 with heap := h' } := I1.kept (t' := s1.toks) hk
  generalize hN : s1.heap.objs.size = N at *
  have sep : ZipSep2 (N + 4) (N + 2) (N + 3) N (N + 1) [N, a] [N + 1, b] := zip_sep2 (N := N) (fp1 := [a]) (fp2 := [b]) (fun c hc => by rw [List.mem_singleton.mp hc]; exact la) (fun c hc => by rw [List.mem_singleton.mp hc]; exact lb)
  refine ⟨N + 4, [N + 4, N + 2, N + 3, N, N + 1], _, _, H1, rfl, I2, turn_zipK sep (Nat.ne_of_lt la) (Nat.ne_of_lt (Nat.lt_succ_of_lt lb)), ⟨hz, hTI, ⟨_, _, hTO⟩, itK_new e1, itK_new e2⟩, fun c hc => ?_, q⟩
  have hle : s1.heap.objs.size ≤ c := by
    rw [hN]
    rcases (by simpa using hc : c = N + 4 ∨ c = N + 2 ∨ c = N + 3 ∨ c = N ∨ c = N + 1) with z | z | z | z | z <;> rw [z] <;> first | exact Nat.le_refl _ | exact Nat.le_add_right _ _
  exact I1.fpOk hle (I1.hok.fresh hle)
theorem okZK {K : PySem.W.Frag} {F : Hp} {k1 k2 : Kd} {a b : Addr} {vs us : List V} {ds es : List D} (h : SqK K k1 F a vs) (r : Reps K F vs ds) (h' : SqK K k2 F b us) (r' : Reps K F us es) : ItOk K (ItzK K k1 k2 a b) F (ds.zipWith (fun x y => .tup [x, y]) es) := fun i H F' s1 s2 => by
  have h1 := SqKm (s1.tr s2) h
  have h2 := SqKm (s1.tr s2) h'
  refine ⟨fun hi => ⟨vs, us, h1, h2, ?_⟩, fun d hd => ?_⟩
  · rw [List.length_zipWith] at hi
    rw [r.length, r'.length]
    omega
  obtain ⟨x, y, e1, e2, rfl⟩ := zip_get hd
  obtain ⟨v, f1, rv⟩ := r.get i e1
  obtain ⟨u, f2, ru⟩ := r'.get i e2
  refine ⟨⟨vs, us, v, u, h1, h2, f1, f2⟩, fun z H' ⟨T, x', y', ez, hT, eH, q1, q2⟩ => ?_⟩
  cases (q1 vs h1).symm.trans f1
  cases (q2 us h2).symm.trans f2
  subst ez eH
  exact ⟨upd F' T (.tup [v, u]), .tup s2 hT, .tup (.of upd_same) (.cons (rv.mono (s1.tr (Sm.updN (s2.none hT)))) (.cons (ru.mono (s1.tr (Sm.updN (s2.none hT)))) .nil))⟩
theorem AI.zipM {e e2 : Expr} {fs : M (List D)} {p pos tpos : Pos} {elts : List Expr} {kk : Nat} (hg : Gl X "zip") (hm : X.mg "zip" = none) (ha : AA X W [e, e2] fs)
    (hs : starEach [e, e2] X.env = (false, eval e X.env) :: starEach [e2] X.env := by rfl) (hpl : (backTo pos (starEach [e2] X.env)).any (·.1) = false := by rfl) :
    AI X W (.Tuple elts kk tpos) (.Call (.Name "zip" p) [e, e2] [] pos) (mItL zipMD fs) := by
  obtain ⟨t, pa, qa⟩ := ha
  refine ⟨_, pi_zipK hg hm pa hs hpl, fun G σ H F ρ R S hgd => qa G σ H F ρ _ S (hgd.bind fun ds ρ1 H1 F1 S1 s1 g1 vs r1 => ?_)⟩
  unfold zipMD at g1
  split at g1
  · rename_i a b
    obtain ⟨v, u, rfl, rv, ru⟩ := reps2 r1
    cases ea : seqD a with
    | none => simp only [ea] at g1; exact g1.elim
    | some xs =>
      cases eb : seqD b with
      | none => simp only [ea, eb] at g1; exact g1.elim
      | some ys =>
        simp only [ea, eb] at g1
        obtain ⟨k1, p1, ws, rfl, h1, q1⟩ := seqD_rep rv ea
        obtain ⟨k2, p2, zs, rfl, h2, q2⟩ := seqD_rep ru eb
        exact ⟨k1, k2, p1, p2, ws, zs, rfl, SqKm S1.sub h1, SqKm S1.sub h2, g1 H1 F1 S1 Sm.refl _ (okZK h1 q1 h2 q2)⟩
  · exact g1.elim
end
end Mr
/-! Mr22: list(range(n)) -/
namespace Mr
open PySem PySem.Spec PyProof.Rows L2
variable [Lam] [Pins]
section
variable {X : Cx} {W : WX} {pos : Pos}
def listRgD : D → FR D
  | .int n => if I62 n ∧ n.toNat ≤ sizeLine then .ok (.lst ((List.range n.toNat).map fun (k : Nat) => .int k)) else .stuck
  | _ => .stuck
theorem rgV_reps {K : PySem.W.Frag} {H : Hp} (n : Int) : Reps K H (rgV 0 n) ((List.range n.toNat).map fun (k : Nat) => D.int k) := by
  unfold rgV
  rw [show (n - 0).toNat = n.toNat by simp]
  generalize List.range n.toNat = l
  induction l with
  | nil => exact .nil
  | cons i l ih =>
    rw [List.map_cons, List.map_cons]
    refine .cons ?_ ih
    rw [show (0 : Int) + (i : Int) = i by simp]
    exact .int _
theorem AE.listRg {e : Expr} {f : M D} {p p' pos' : Pos} (hc : X.calm = true) (hg : Gl X "list") (hm : X.mg "list" = none) (hg2 : Gl X "range") (hm2 : X.mg "range" = none) (ha : AE X W e f)
    (he : starEach [e] X.env = (false, eval e X.env) :: starEach [] X.env := by rfl)
    (he2 : starEach [.Call (.Name "range" p') [e] [] pos'] X.env = (false, eval (.Call (.Name "range" p') [e] [] pos') X.env) :: starEach [] X.env := by rfl) :
    AE X W (.Call (.Name "list" p) [.Call (.Name "range" p') [e] [] pos'] [] pos) (m1 listRgD f) := by
  obtain ⟨t, pa, qa⟩ := ha
  refine ⟨_, pe_listRg hc hg hm (prg_1 hg2 hm2 pa he) he2, fun G σ H F ρ Q S hgd => qa G σ H F ρ _ S (hgd.bind fun d ρ1 H1 F1 S1 s1 g1 v r => ?_)⟩
  unfold listRgD at g1
  split at g1
  · split at g1
    · rename_i n hz
      cases r
      refine ⟨n, rfl, ⟨by decide, by decide, hz.1.1, hz.1.2, ?_⟩, fun q hq => newLst S1 (rgV_reps n) g1 hq⟩
      have := hz.2
      rw [show (n - 0).toNat = n.toNat by simp]
      exact this
    · exact g1.elim
  · exact g1.elim
end
instance (priority := low) lam0 : Lam := ⟨fun _ => []⟩
end Mr
/-! Mr23: {}, written dicts read, str of ints, texts joined, two stores into a list at once. -/
namespace Mr
open PySem PySem.Spec PyProof.Rows L2
section
variable [Lam] [Pins]
variable {X : Cx} {W : WX} {pos : Pos}
/-- {} -/
theorem AE.dict0 : AE X W (.Dict [] [] pos) (mC (.dct [] [])) := by
  refine ⟨_, pe_dnewK, fun G σ H F ρ Q S hg p np => ?_⟩
  exact hg _ _ (S.alloc np) (S.allocF np) _ (.dct (ks := []) (vs := []) upd_same rfl .nil)
/-- a list of one's own handed to a def that never looks at it -/
def mAny (j : Nat) : M D := fun ρ => match ρ.getD j .un with
  | .own _ _ => .ok .any ρ
  | _ => .stuck
theorem AE.any {j : Nat} {y : Str} (h : PE X (.Name y pos) (tVar j)) : AE X W (.Name y pos) (mAny j) := by
  refine ⟨_, h, fun G σ H F ρ Q S hg => ?_⟩
  unfold mAny at hg
  split at hg
  · rename_i p xs e
    obtain ⟨a, vs, e1, _⟩ := own_at S e
    exact ⟨_, e1, hg H F S Sm.refl _ (.any _ fun z => by cases z)⟩
  · exact hg.elim
/-! ### a written dict of texts -/
/-- the module's name x; what its dict has at these texts -/
def wdB (x : Str) (kvs : List (Str × Option Str)) (K : PySem.W.Frag) : Bool := He.eqO (PySem.W.nsIn K mainGlobals x) (some (some (.ref (He.ga K x)))) && kvs.all fun kv => match PySem.W.nsIn K (He.ga K x) kv.1 with
    | some (some (.str y _)) => decide (kv.2 = some y)
    | some none => decide (kv.2 = none)
    | _ => false
structure WdF (w : World) (K : PySem.W.Frag) (mg : Str → Option Value) (x : Str) (kvs : List (Str × Option Str)) : Prop where
  m : mg x = some (.ref (He.ga K x))
  d : ∃ es n, KDict K w (He.ga K x) es n
  at_ : ∀ kv ∈ kvs, ∃ r, PySem.W.nsIn K (He.ga K x) kv.1 = some r ∧ r.isSome = kv.2.isSome ∧ ∀ y, kv.2 = some y → ∃ t, r = some (.str y t)
theorem wdF_ok {w : World} {K : PySem.W.Frag} {h : Heap} {mg : Str → Option Value} {x : Str} {kvs : List (Str × Option Str)} {ks : List Str} {wd : WdL} (X : K.In h) (G : h.Ns mainGlobals mg) (c : wdB x kvs K = true) (D : WdAt wd w K) (hd : (x, ks) ∈ wd) : WdF w K mg x kvs := by
  obtain ⟨h1, h2⟩ := He.ba c
  refine ⟨PySem.W.mg_of X G (He.eqO_ok h1), He.dicW_ok (D _ hd), fun kv hkv => ?_⟩
  have h3 := List.all_eq_true.mp h2 kv hkv
  revert h3
  cases PySem.W.nsIn K (He.ga K x) kv.1 with
  | none => intro h3; cases h3
  | some r =>
    cases r with
    | none =>
      intro h3
      have e : kv.2 = none := of_decide_eq_true h3
      exact ⟨none, rfl, by simp [e], fun y z => by rw [e] at z; cases z⟩
    | some u =>
      intro h3
      cases u with
      | str y t =>
        have e : kv.2 = some y := of_decide_eq_true h3
        exact ⟨_, rfl, by simp [e], fun z hz => by rw [e] at hz; cases hz; exact ⟨t, rfl⟩⟩
      | _ => cases h3
def wgetD (kvs : List (Str × Option Str)) : D → FR D
  | .str z => match kvs.lookup z with
    | some (some y) => .ok (.str y)
    | _ => .stuck
  | _ => .stuck
def winD (kvs : List (Str × Option Str)) : D → FR D
  | .str z => match kvs.lookup z with
    | some r => .ok (.bl r.isSome)
    | none => .stuck
  | _ => .stuck
def wninD (kvs : List (Str × Option Str)) : D → FR D
  | .str z => match kvs.lookup z with
    | some r => .ok (.bl (!r.isSome))
    | none => .stuck
  | _ => .stuck
variable {e : Expr} {fe : M D} {x : Str} {kvs : List (Str × Option Str)} {p : Pos}
theorem AE.wget (F : WdF X.w X.K X.mg x kvs) (hg : Gl X x) (he : AE X W e fe) (hs : NoSl e) (hdb : (x == ("__debug__" : Str)) = false := by decide) : AE X W (.Subscript (.Name x p) e pos) (m1 (wgetD kvs) fe) := by
  obtain ⟨t, pe, qe⟩ := he
  refine ⟨_, pe_ix ix_kdict (pe_glob (v := .ref (He.ga X.K x)) hg F.m rfl hdb) pe hs, fun G σ H F' ρ Q S hgd => qe G σ H F' ρ _ S (hgd.bind fun d ρ1 H1 F1 S1 s1 g1 v r1 => ?_)⟩
  unfold wgetD at g1
  cases r1 with
  | str z =>
    cases el : kvs.lookup z with
    | none => simp only [el] at g1; exact g1.elim
    | some r =>
      cases r with
      | none => simp only [el] at g1; exact g1.elim
      | some y =>
        simp only [el] at g1
        obtain ⟨es, n, kd⟩ := F.d
        obtain ⟨r', h1, _, h3⟩ := F.at_ _ (lookup_mem el)
        obtain ⟨tk, h4⟩ := h3 y rfl
        subst h4
        exact ⟨_, z, .str y, rfl, rfl, ⟨es, n, _, kd.at_, kd.lit, h1, ⟨tk, rfl⟩⟩, g1 H1 F1 S1 Sm.refl _ (.str y)⟩
  | _ => exact g1.elim
theorem AE.win (F : WdF X.w X.K X.mg x kvs) (hg : Gl X x) (he : AE X W e fe) (hm : behindInMarks .In (.Name x p) = false) (hdb : (x == ("__debug__" : Str)) = false := by decide) : AE X W (.Compare e [.In] [.Name x p] pos) (m1 (winD kvs) fe) := by
  obtain ⟨t, pe, qe⟩ := he
  obtain ⟨es, n, kd⟩ := F.d
  refine ⟨_, pe_cmpR (op_in_kd kd) pe (pe_glob (v := .ref (He.ga X.K x)) hg F.m rfl hdb) hm, fun G σ H F' ρ Q S hgd => qe G σ H F' ρ _ S (hgd.bind fun d ρ1 H1 F1 S1 s1 g1 v r1 => ?_)⟩
  unfold winD at g1
  cases r1 with
  | str z =>
    cases el : kvs.lookup z with
    | none => simp only [el] at g1; exact g1.elim
    | some r =>
      simp only [el] at g1
      obtain ⟨r', h1, h2, _⟩ := F.at_ _ (lookup_mem el)
      rw [← h2] at g1
      exact ⟨z, r', rfl, rfl, h1, g1 H1 F1 S1 Sm.refl _ (.bl _)⟩
  | _ => exact g1.elim
theorem AE.wnin (F : WdF X.w X.K X.mg x kvs) (hg : Gl X x) (he : AE X W e fe) (hm : behindInMarks .NotIn (.Name x p) = false) (hdb : (x == ("__debug__" : Str)) = false := by decide) : AE X W (.Compare e [.NotIn] [.Name x p] pos) (m1 (wninD kvs) fe) := by
  obtain ⟨t, pe, qe⟩ := he
  obtain ⟨es, n, kd⟩ := F.d
  refine ⟨_, pe_cmpR (op_notIn_kd kd) pe (pe_glob (v := .ref (He.ga X.K x)) hg F.m rfl hdb) hm, fun G σ H F' ρ Q S hgd => qe G σ H F' ρ _ S (hgd.bind fun d ρ1 H1 F1 S1 s1 g1 v r1 => ?_)⟩
  unfold wninD at g1
  cases r1 with
  | str z =>
    cases el : kvs.lookup z with
    | none => simp only [el] at g1; exact g1.elim
    | some r =>
      simp only [el] at g1
      obtain ⟨r', h1, h2, _⟩ := F.at_ _ (lookup_mem el)
      rw [← h2] at g1
      exact ⟨z, r', rfl, rfl, h1, g1 H1 F1 S1 Sm.refl _ (.bl _)⟩
  | _ => exact g1.elim
theorem AT.win (F : WdF X.w X.K X.mg x kvs) (hg : Gl X x) (he : AE X W e fe) (hm : behindInMarks .In (.Name x p) = false) (hdb : (x == ("__debug__" : Str)) = false := by decide) : AT X W (.Compare e [.In] [.Name x p] pos) (tOf (m1 (winD kvs) fe)) := by
  obtain ⟨t, pe, qe⟩ := he
  obtain ⟨es, n, kd⟩ := F.d
  refine ⟨_, pt_cmpR (op_in_kd kd) pe (pe_glob (v := .ref (He.ga X.K x)) hg F.m rfl hdb) hm, fun G σ H F' ρ Q S hgd => qe G σ H F' ρ _ S ((tOf_bool hgd).bind fun d ρ1 H1 F1 S1 s1 g1 v r1 => ?_)⟩
  unfold winD at g1
  cases r1 with
  | str z =>
    cases el : kvs.lookup z with
    | none => simp only [el] at g1; exact g1.elim
    | some r =>
      simp only [el] at g1
      obtain ⟨r', h1, h2, _⟩ := F.at_ _ (lookup_mem el)
      rw [← h2] at g1
      exact ⟨z, r', rfl, rfl, h1, g1 H1 F1 S1 Sm.refl _ (.bl _)⟩
  | _ => exact g1.elim
theorem AT.wnin (F : WdF X.w X.K X.mg x kvs) (hg : Gl X x) (he : AE X W e fe) (hm : behindInMarks .NotIn (.Name x p) = false) (hdb : (x == ("__debug__" : Str)) = false := by decide) : AT X W (.Compare e [.NotIn] [.Name x p] pos) (tOf (m1 (wninD kvs) fe)) := by
  obtain ⟨t, pe, qe⟩ := he
  obtain ⟨es, n, kd⟩ := F.d
  refine ⟨_, pt_cmpR (op_notIn_kd kd) pe (pe_glob (v := .ref (He.ga X.K x)) hg F.m rfl hdb) hm, fun G σ H F' ρ Q S hgd => qe G σ H F' ρ _ S ((tOf_bool hgd).bind fun d ρ1 H1 F1 S1 s1 g1 v r1 => ?_)⟩
  unfold wninD at g1
  cases r1 with
  | str z =>
    cases el : kvs.lookup z with
    | none => simp only [el] at g1; exact g1.elim
    | some r =>
      simp only [el] at g1
      obtain ⟨r', h1, h2, _⟩ := F.at_ _ (lookup_mem el)
      rw [← h2] at g1
      exact ⟨z, r', rfl, rfl, h1, g1 H1 F1 S1 Sm.refl _ (.bl _)⟩
  | _ => exact g1.elim
/-! ### str of an int, texts joined -/
def strD : List D → FR D
  | [.int i] => if i.natAbs.log2 < 1920 then .ok (.str (Str.ofString (toString i))) else .stuck
  | _ => .stuck
theorem CA.str : CA X W (.type "str") strD := by
  refine ⟨_, call_str_int, fun G σ H F ρ vs ds Q S r hg => ?_⟩
  unfold strD at hg
  split at hg
  · split at hg
    · rename_i h
      obtain ⟨v, rfl, rv⟩ := reps1 r
      cases rv
      exact ⟨_, rfl, h, hg H F S Sm.refl _ (.str _)⟩
    · exact hg.elim
  · exact hg.elim
def txtsD : List D → Option (List Str)
  | [] => some []
  | .str x :: r => (txtsD r).map (x :: ·)
  | _ :: _ => none
theorem txtsD_reps {K : PySem.W.Frag} {H : Hp} : ∀ {vs : List V} {ds : List D} {ys : List Str}, Reps K H vs ds → txtsD ds = some ys → vs = ys.map V.str
  | _, _, _, .nil, h => by cases h; rfl
  | _, _, _, .cons r t, h => by
    cases r with
    | str x =>
      unfold txtsD at h
      cases e : txtsD _ with
      | none => rw [e] at h; cases h
      | some zs =>
        rw [e] at h
        cases h
        rw [txtsD_reps t e]; rfl
    | _ => cases h
def joinOf (a : Str) (ds : List D) : FR D := match txtsD ds with
  | some ys => if (ys.map (·.length)).sum + ys.length * a.length ≤ 16777216 then .ok (.str (Txt.join a ys)) else .stuck
  | none => .stuck
def joinD (a : Str) : D → FR D
  | .lst ds => joinOf a ds
  | .tup ds => joinOf a ds
  | _ => .stuck
def mJoin (fo fe : M D) : M D := fun ρ => (fo ρ).bind fun d ρ => match d with
  | .str a => (fe ρ).bind fun x ρ => (joinD a x).lift ρ
  | _ => .stuck
theorem AE.join {o : Expr} {fo : M D} {apos : Pos} (ho : AE X W o fo) (he : AE X W e fe) (hs : starEach [e] X.env = [(false, eval e X.env)] := by rfl) (hbase : attributeBase o "join" X.env (eval o X.env) = eval o X.env := by rfl) (hline : (apos.endLine == pos.line) = true := by rfl) :
    AE X W (.Call (.Attribute o "join" apos) [e] [] pos) (mJoin fo fe) := by
  obtain ⟨to, po, qo⟩ := ho
  obtain ⟨te, pe, qe⟩ := he
  refine ⟨_, pe_join po pe hs hbase hline, fun G σ H F ρ Q S hg => qo G σ H F ρ _ S (hg.bind fun d ρ1 H1 F1 S1 s1 g1 v r1 => ?_)⟩
  cases r1 with
  | str a =>
    refine ⟨⟨a, rfl⟩, qe G σ H1 F1 ρ1 _ S1 (g1.bind fun d2 ρ2 H2 F2 S2 s2 g2 u r2 => ?_)⟩
    have fin : ∀ {ds : List D} {vs : List V} {q : Addr}, u = .ref q → (SqL X.K H2 q vs ∨ SqT X.K H2 q vs) → Reps X.K F2 vs ds → joinD a d2 = joinOf a ds → ∃ a' p, ∃ ys : List Str, V.str a = .str a' ∧ [u] = [.ref p] ∧ (SqL X.K H2 p (ys.map V.str) ∨ SqT X.K H2 p (ys.map V.str)) ∧ (ys.map (·.length)).sum + ys.length * a'.length ≤ 16777216 ∧ Q (.str (Txt.join a' ys)) H2 := fun {ds vs q} eu hs rs ej => by
      rw [ej] at g2
      unfold joinOf at g2
      cases es : txtsD ds with
      | none => simp only [es] at g2; exact g2.elim
      | some ys =>
        simp only [es] at g2
        have ev := txtsD_reps rs es
        subst ev eu
        split at g2
        · rename_i hz
          exact ⟨a, q, ys, rfl, rfl, hs, hz, g2 H2 F2 S2 Sm.refl _ (.str _)⟩
        · exact g2.elim
    cases r2 with
    | lst hx rx => exact fin rfl (.inl (.of (S2.sub _ _ hx))) rx rfl
    | tup hx rx => exact fin rfl (.inr (SqTm S2.sub hx)) rx rfl
    | _ => exact g2.elim
  | _ => exact g1.elim
/-! ### two places of a list are stored to at once -/
def putIx (j : Nat) (v : D) (fe : M D) : M Unit := fun ρ => match ρ.getD j .un with
  | .own _ _ => (fe ρ).bind fun i ρ => match ρ.getD j .un, i with
    | .own p xs, .int k => match ixN xs.length k with
      | some n => .ok () (ρ.set j (.own p (xs.set n v)))
      | none => .stuck
    | _, _ => .stuck
  | _ => .stuck
def xPar2 (j : Nat) (ft : M D) (f1 f2 : M D) : M Fl := fun ρ => (ft ρ).bind fun d ρ => match d with
  | .tup [v1, v2] => (putIx j v1 f1 ρ).bind fun _ ρ => (putIx j v2 f2 ρ).bind fun _ ρ => .ok .nx ρ
  | _ => .stuck
theorem put_ix {G : Ent} {σ : L2.St} {H F : Hp} {ρ : Ro} {j : Nat} {y : Str} {py : Pos} {b : Expr} {tb : TE} {v : V} {d : D} {β : Type} {k : Unit → Ro → R Fl} {Q : L2.St → Hp → Prop} {Dn : Ends}
    (qb : ∀ G σ H F ρ Q, Stt X.K G σ H F ρ → Good X.K G W σ F (fe ρ) (PD X.K Q) → tb σ H Q) (S : Stt X.K G σ H F ρ) (rv : Rep X.K F v d) (hg : GoodS X.K G W F ((putIx j d fe ρ).bind k) Dn)
    (fin : ∀ ρ' H' F', Stt X.K G σ H' F' ρ' → Sm F F' → GoodS X.K G W F' (k () ρ') Dn → Q σ H') : gSub (tVar j) tb rSetL v σ H Q := by
  unfold putIx at hg
  split at hg
  · rename_i p xs e1
    obtain ⟨a, vs, e2, e3, e4, r⟩ := own_at S e1
    have hg2 : GoodS X.K G W F ((fe ρ).bind fun i ρ' => (match ρ'.getD j .un, i with
      | .own p xs, .int k => match ixN xs.length k with
        | some n => R.ok () (ρ'.set j (.own p (xs.set n d)))
        | none => .stuck
      | _, _ => .stuck).bind k) Dn := by
      cases ef : fe ρ <;> rw [ef] at hg <;> exact hg
    refine ⟨_, e2, qb G σ H F ρ _ S (GoodS.bind hg2 fun di ρ2 H2 F2 S2 s2 g2 u ru => ?_)⟩
    split at g2
    · rename_i p2 ys k e5
      obtain ⟨a', ws, f1, f2, f3, r'⟩ := own_at S2 e5
      rw [e2] at f1; cases f1
      cases ru
      split at g2
      · rename_i m hm
        exact ⟨a, ws, k, m, rfl, rfl, f2, by rw [r'.length]; exact hm, fin _ _ F2 (own_put (ws := ws) S2 e5 e2 f3 (r'.set (rv.mono s2) m)) s2 g2⟩
      · exact g2.elim
    · exact g2.elim
  · exact hg.elim
/-- x[b1], x[b2] = e -/
theorem AS.par2 {j k : Nat} {y : Str} {py1 py2 p1 p2 : Pos} {b1 b2 : Expr} {f1 f2 ft : M D} (hc : X.calm = true) (ht : AE X W e ft) (h1 : PE X (.Name y py1) (tVar j)) (h2 : PE X (.Name y py2) (tVar j)) (hb1 : AE X W b1 f1) (hb2 : AE X W b2 f2)
    (ha1 : ∀ v, assign (.Subscript (.Name y py1) b1 p1) X.env v = (do
      let ov ← holding [v] (eval (.Name y py1) X.env)
      let iv ← holding [v, ov] (eval b1 X.env)
      standAt p1
      holding [v, ov, iv] (setItem ov iv v)
      release [v, ov, iv] []) := by intro _; rfl)
    (ha2 : ∀ v, assign (.Subscript (.Name y py2) b2 p2) X.env v = (do
      let ov ← holding [v] (eval (.Name y py2) X.env)
      let iv ← holding [v, ov] (eval b2 X.env)
      standAt p2
      holding [v, ov, iv] (setItem ov iv v)
      release [v, ov, iv] []) := by intro _; rfl)
    (hs0 : (assignEach [.Subscript (.Name y py2) b2 p2] X.env).map (·.2) = assign (.Subscript (.Name y py2) b2 p2) X.env :: (assignEach [] X.env).map (·.2) := by rfl)
    (hs1 : (assignEach [.Subscript (.Name y py1) b1 p1, .Subscript (.Name y py2) b2 p2] X.env).map (·.2) = assign (.Subscript (.Name y py1) b1 p1) X.env :: (assignEach [.Subscript (.Name y py2) b2 p2] X.env).map (·.2) := by rfl)
    (hn : (assignEach [.Subscript (.Name y py1) b1 p1, .Subscript (.Name y py2) b2 p2] X.env).length = 2 := by rfl) (hst : (assignEach [.Subscript (.Name y py1) b1 p1, .Subscript (.Name y py2) b2 p2] X.env).findIdx? (·.1) = none := by rfl)
    (hs : swapsWithSole [.Tuple [.Subscript (.Name y py1) b1 p1, .Subscript (.Name y py2) b2 p2] k p] e pos.line X.env = pure false := by rfl) (hw : swappedStores [.Tuple [.Subscript (.Name y py1) b1 p1, .Subscript (.Name y py2) b2 p2] k p] e X.env = pure none := by rfl)
    (hq : (assignEach [.Tuple [.Subscript (.Name y py1) b1 p1, .Subscript (.Name y py2) b2 p2] k p] X.env).map (·.2) = [assign (.Tuple [.Subscript (.Name y py1) b1 p1, .Subscript (.Name y py2) b2 p2] k p) X.env] := by rfl) :
    AS X W (.Assign [.Tuple [.Subscript (.Name y py1) b1 p1, .Subscript (.Name y py2) b2 p2] k p] e pos) (xPar2 j ft f1 f2) := by
  obtain ⟨tt, pt, qt⟩ := ht
  obtain ⟨t1, pb1, qb1⟩ := hb1
  obtain ⟨t2, pb2, qb2⟩ := hb2
  refine ⟨_, ps_asg pt (pg_tup hc (pgs_cons (pg_sub h1 pb1 set_list ha1) (pgs_cons (pg_sub h2 pb2 set_list ha2) pgs_nil hs0) hs1) hn hst) hs hw hq, fun G σ H F ρ Dn S hg => qt G σ H F ρ _ S (GoodS.bind hg fun d ρ1 H1 F1 S1 s1 g1 v rv => ?_)⟩
  split at g1
  · rename_i d1 d2
    cases rv with
    | tup hx rx =>
      obtain ⟨v1, v2, rfl, r1, r2⟩ := reps2 rx
      refine ⟨_, _, rfl, SqTm S1.sub hx, rfl, ?_⟩
      refine ⟨v1, _, rfl, put_ix (β := Unit) (y := y) (py := p) (b := b1) qb1 S1 r1 g1 fun ρ2 H2 F2 S2 s2 g2 => ?_⟩
      exact ⟨v2, _, rfl, put_ix (β := Unit) (y := y) (py := p) (b := b2) qb2 S2 (r2.mono s2) g2 fun ρ3 H3 F3 S3 s3 g3 => ⟨rfl, g3 σ H3 F3 S3 Sm.refl⟩⟩
  · exact g1.elim
end
end Mr
namespace Mr
open PySem PySem.Spec PyProof.Rows L2
/-! ### sizes of ints -/
/-- of at most n bits -/
def Sz (n : Nat) (i : Int) : Prop := i.natAbs < 2 ^ n
section
variable {a b n k : Nat} {i j : Int}
theorem Sz.mono (h : Sz a i) (l : a ≤ b) : Sz b i := Nat.lt_of_lt_of_le h (Nat.pow_le_pow_right (by decide) l)
theorem Sz.neg (h : Sz a i) : Sz a (-i) := by unfold Sz at *; rw [Int.natAbs_neg]; exact h
theorem Sz.add (h : Sz a i) (h' : Sz b j) : Sz (max a b + 1) (i + j) := by
  have h1 := h.mono (Nat.le_max_left a b)
  have h2 := h'.mono (Nat.le_max_right a b)
  unfold Sz at *
  rw [Nat.pow_succ]
  have := Int.natAbs_add_le i j
  omega
theorem Sz.sub (h : Sz a i) (h' : Sz b j) : Sz (max a b + 1) (i - j) := by
  rw [Int.sub_eq_add_neg]; exact h.add h'.neg
theorem Sz.mul (h : Sz a i) (h' : Sz b j) : Sz (a + b) (i * j) := by
  unfold Sz at *
  rw [Int.natAbs_mul, Nat.pow_add]
  exact Nat.mul_lt_mul'' h h'
theorem Sz.bits (h : Sz a i) : Builtin.Int.intBits i ≤ a := PyProof.Rows.intBits_le h
theorem Sz.mulOk (h : Sz a i) (h' : Sz b j) (l : a + b ≤ 134217728) : mulOk i j := by
  have h1 := h.bits
  have h2 := h'.bits
  unfold Mr.mulOk
  omega
theorem Sz.lt (h : Sz a i) : i < ((2 ^ a : Nat) : Int) := by unfold Sz at h; omega
theorem Sz.gt (h : Sz a i) : -((2 ^ a : Nat) : Int) < i := by unfold Sz at h; omega
theorem Sz.of (h : -((2 ^ a : Nat) : Int) < i) (h' : i < ((2 ^ a : Nat) : Int)) : Sz a i := by unfold Sz; omega
theorem Sz.of_nat (h : 0 ≤ i) (h' : i < ((2 ^ a : Nat) : Int)) : Sz a i := by unfold Sz; omega
theorem Sz.of_abs (h : Sz a i) (h' : j.natAbs ≤ i.natAbs) : Sz a j := Nat.lt_of_le_of_lt h' h
theorem Sz.zero : Sz a 0 := by unfold Sz; exact Nat.two_pow_pos a
theorem Sz.one : Sz 1 1 := by unfold Sz; decide
theorem Sz.fmod (h : Sz b j) (hj : 0 < j) : Sz b (i.fmod j) := by
  have h1 := Int.fmod_nonneg_of_pos i hj
  have h2 := Int.fmod_lt_of_pos i hj
  unfold Sz at *
  omega
theorem Sz.divOk (h : Sz b j) (hj : j ≠ 0) (l : b ≤ 9000 := by decide) : divOk i j := by
  refine ⟨hj, ?_⟩
  unfold Builtin.divisionGoesByPylong
  have hl : j.natAbs.log2 < 9000 := by
    have h1 : j.natAbs ≠ 0 := by omega
    have := (Nat.log2_lt h1).mpr (Nat.lt_of_lt_of_le h (Nat.pow_le_pow_right (by decide) l))
    exact this
  have : ¬ ((j.natAbs.log2 / 30 + 1) > 300) := by omega
  simp only [Bool.and_eq_false_iff, decide_eq_false_iff_not]
  left
  split <;> omega
theorem Sz.sum : ∀ {xs : List Int} {k : Nat}, (∀ x ∈ xs, Sz a x) → xs.length ≤ 2 ^ k → Sz (a + k) xs.sum := by
  intro xs k h hl
  have main : ∀ ys : List Int, (∀ x ∈ ys, Sz a x) → ys.sum.natAbs ≤ ys.length * 2 ^ a := by
    intro ys
    induction ys with
    | nil => intro _; simp
    | cons y ys ih =>
      intro h
      have h1 := ih fun x hx => h x (List.mem_cons_of_mem _ hx)
      have h2 : y.natAbs < 2 ^ a := h y (List.mem_cons_self ..)
      rw [List.sum_cons, List.length_cons, Nat.succ_mul]
      have := Int.natAbs_add_le y ys.sum
      omega
  unfold Sz
  by_cases e : xs = []
  · subst e; simp [Nat.two_pow_pos]
  have h1 := main xs h
  have strict : xs.sum.natAbs < xs.length * 2 ^ a := by
    cases xs with
    | nil => exact absurd rfl e
    | cons y ys =>
      have h1 := main ys fun x hx => h x (List.mem_cons_of_mem _ hx)
      have h2 : y.natAbs < 2 ^ a := h y (List.mem_cons_self ..)
      rw [List.sum_cons, List.length_cons, Nat.succ_mul]
      have := Int.natAbs_add_le y ys.sum
      omega
  rw [Nat.pow_add, Nat.mul_comm (2 ^ a)]
  exact Nat.lt_of_lt_of_le strict (Nat.mul_le_mul_right _ hl)
theorem Sz.abs (h : Sz a i) : Sz a (if i < 0 then -i else i) := by
  split
  · exact h.neg
  · exact h
end

/-! ### evaluation -/
section
variable {α β : Type}
theorem R.bind_congr {r r' : R α} (k : α → Ro → R β) (h : r = r') : r.bind k = r'.bind k := by rw [h]
@[simp] theorem R.bind_ok (a : α) (ρ : Ro) (k : α → Ro → R β) : (R.ok a ρ).bind k = k a ρ := id rfl
@[simp] theorem R.bind_exc (a : Ex) (ρ : Ro) (k : α → Ro → R β) : (R.exc a ρ).bind k = .exc a ρ := id rfl
@[simp] theorem R.bind_stuck (k : α → Ro → R β) : (R.stuck).bind k = .stuck := id rfl
@[simp] theorem FR.lift_ok (a : α) (ρ : Ro) : (FR.ok a).lift ρ = .ok a ρ := id rfl
@[simp] theorem FR.lift_exc (a : Ex) (ρ : Ro) : (FR.exc a : FR α).lift ρ = .exc a ρ := id rfl
@[simp] theorem FR.lift_stuck (ρ : Ro) : (FR.stuck : FR α).lift ρ = .stuck := id rfl
@[simp] theorem R.nox_ok (a : α) (ρ : Ro) : (R.ok a ρ).nox = .ok a ρ := id rfl
end
section
variable {ρ : Ro} {a b c : M D} {g h : D → D → FR D} {u : D → FR D} {l : List D → FR D} {as : M (List D)} {t t' : M Bool} {d e : D} {i j : Nat}
@[simp] theorem ap_C : mC d ρ = .ok d ρ := id rfl
theorem ap_Var (h : ρ.getD i .un = .val d) : mVar i ρ = .ok d ρ := by unfold mVar; rw [h]
@[simp] theorem ap_Var0 {s : List SV} : mVar 0 (.val d :: s) = .ok d (.val d :: s) := id rfl
@[simp] theorem ap_Var1 {s0 : SV} {s : List SV} : mVar 1 (s0 :: .val d :: s) = .ok d (s0 :: .val d :: s) := id rfl
@[simp] theorem ap_Var2 {s0 s1 : SV} {s : List SV} : mVar 2 (s0 :: s1 :: .val d :: s) = .ok d (s0 :: s1 :: .val d :: s) := id rfl
@[simp] theorem ap_Var3 {s0 s1 s2 : SV} {s : List SV} : mVar 3 (s0 :: s1 :: s2 :: .val d :: s) = .ok d (s0 :: s1 :: s2 :: .val d :: s) := id rfl
@[simp] theorem ap_Var4 {s0 s1 s2 s3 : SV} {s : List SV} : mVar 4 (s0 :: s1 :: s2 :: s3 :: .val d :: s) = .ok d (s0 :: s1 :: s2 :: s3 :: .val d :: s) := id rfl
@[simp] theorem ap_Var5 {s0 s1 s2 s3 s4 : SV} {s : List SV} : mVar 5 (s0 :: s1 :: s2 :: s3 :: s4 :: .val d :: s) = .ok d (s0 :: s1 :: s2 :: s3 :: s4 :: .val d :: s) := id rfl
@[simp] theorem ap_Var6 {s0 s1 s2 s3 s4 s5 : SV} {s : List SV} : mVar 6 (s0 :: s1 :: s2 :: s3 :: s4 :: s5 :: .val d :: s) = .ok d (s0 :: s1 :: s2 :: s3 :: s4 :: s5 :: .val d :: s) := id rfl
@[simp] theorem ap_Var7 {s0 s1 s2 s3 s4 s5 s6 : SV} {s : List SV} : mVar 7 (s0 :: s1 :: s2 :: s3 :: s4 :: s5 :: s6 :: .val d :: s) = .ok d (s0 :: s1 :: s2 :: s3 :: s4 :: s5 :: s6 :: .val d :: s) := id rfl
@[simp] theorem ap_Var8 {s0 s1 s2 s3 s4 s5 s6 s7 : SV} {s : List SV} : mVar 8 (s0 :: s1 :: s2 :: s3 :: s4 :: s5 :: s6 :: s7 :: .val d :: s) = .ok d (s0 :: s1 :: s2 :: s3 :: s4 :: s5 :: s6 :: s7 :: .val d :: s) := id rfl
@[simp] theorem ap_Var9 {s0 s1 s2 s3 s4 s5 s6 s7 s8 : SV} {s : List SV} : mVar 9 (s0 :: s1 :: s2 :: s3 :: s4 :: s5 :: s6 :: s7 :: s8 :: .val d :: s) = .ok d (s0 :: s1 :: s2 :: s3 :: s4 :: s5 :: s6 :: s7 :: s8 :: .val d :: s) := id rfl
@[simp] theorem ap_Var10 {s0 s1 s2 s3 s4 s5 s6 s7 s8 s9 : SV} {s : List SV} : mVar 10 (s0 :: s1 :: s2 :: s3 :: s4 :: s5 :: s6 :: s7 :: s8 :: s9 :: .val d :: s) = .ok d (s0 :: s1 :: s2 :: s3 :: s4 :: s5 :: s6 :: s7 :: s8 :: s9 :: .val d :: s) := id rfl
@[simp] theorem ap_Var11 {s0 s1 s2 s3 s4 s5 s6 s7 s8 s9 s10 : SV} {s : List SV} : mVar 11 (s0 :: s1 :: s2 :: s3 :: s4 :: s5 :: s6 :: s7 :: s8 :: s9 :: s10 :: .val d :: s) = .ok d (s0 :: s1 :: s2 :: s3 :: s4 :: s5 :: s6 :: s7 :: s8 :: s9 :: s10 :: .val d :: s) := id rfl
@[simp] theorem ap_2 : m2 g a b ρ = (a ρ).bind fun x ρ => (b ρ).bind fun y ρ => (g x y).lift ρ := id rfl
@[simp] theorem ap_1 : m1 u a ρ = (a ρ).bind fun x ρ => (u x).lift ρ := id rfl
@[simp] theorem ap_L : mL l as ρ = (as ρ).bind fun xs ρ => (l xs).lift ρ := id rfl
@[simp] theorem ap_Nil : mNil ρ = .ok [] ρ := id rfl
@[simp] theorem ap_Cons : mCons a as ρ = (a ρ).bind fun x ρ => (as ρ).bind fun xs ρ => .ok (x :: xs) ρ := id rfl
@[simp] theorem ap_If : mIf t a b ρ = (t ρ).bind fun c ρ => bif c then a ρ else b ρ := by
  unfold mIf; congr; funext c ρ; cases c <;> rfl
@[simp] theorem ap_And : mAnd a b ρ = (a ρ).bind fun x ρ => match x with
  | .bl c => bif c then b ρ else .ok (.bl false) ρ
  | _ => .stuck := by
  unfold mAnd; congr; funext x ρ
  cases x with
  | bl c => cases c <;> rfl
  | _ => rfl
@[simp] theorem ap_Or : mOr a b ρ = (a ρ).bind fun x ρ => match x with
  | .bl c => bif c then .ok (.bl true) ρ else b ρ
  | _ => .stuck := by
  unfold mOr; congr; funext x ρ
  cases x with
  | bl c => cases c <;> rfl
  | _ => rfl
@[simp] theorem ap_Chain : mChain g h a b c ρ = (a ρ).bind fun x ρ => (b ρ).bind fun y ρ => ((g x y).lift ρ).bind fun z ρ => match z with
  | .bl k => bif k then (c ρ).bind fun w ρ => (h y w).lift ρ else .ok (.bl false) ρ
  | _ => .stuck := by
  unfold mChain; congr; funext x ρ; congr; funext y ρ; congr; funext z ρ
  cases z with
  | bl c => cases c <;> rfl
  | _ => rfl
@[simp] theorem ap_tOf : tOf a ρ = (a ρ).bind fun x ρ => match x with
  | .bl b => .ok b ρ
  | _ => .stuck := id rfl
@[simp] theorem ap_tNot : tNot t ρ = (t ρ).bind fun b ρ => .ok (!b) ρ := id rfl
@[simp] theorem ap_tAnd : tAnd t t' ρ = (t ρ).bind fun c ρ => bif c then t' ρ else .ok false ρ := by
  unfold tAnd; congr; funext c ρ; cases c <;> rfl
@[simp] theorem ap_tOr : tOr t t' ρ = (t ρ).bind fun c ρ => bif c then .ok true ρ else t' ρ := by
  unfold tOr; congr; funext c ρ; cases c <;> rfl
@[simp] theorem ap_tYes : tYesM ρ = .ok true ρ := id rfl
variable {x y : M Fl} {tg : Tg} {it : M (List D)}
@[simp] theorem ap_Nx : xNx ρ = .ok .nx ρ := id rfl
@[simp] theorem ap_Never : xNever ρ = .stuck := id rfl
@[simp] theorem ap_Bk : xBk ρ = .ok .bk ρ := id rfl
@[simp] theorem ap_Ct : xCt ρ = .ok .ct ρ := id rfl
@[simp] theorem ap_Seq : xSeq x y ρ = (x ρ).bind fun f ρ => match f with
  | .nx => y ρ
  | f => .ok f ρ := id rfl
@[simp] theorem ap_Ret : xRet a ρ = (a ρ).bind fun d ρ => .ok (.rt d) ρ := id rfl
@[simp] theorem ap_RetN : xRetN as ρ = (as ρ).bind fun d ρ => .ok (.rn d) ρ := id rfl
@[simp] theorem ap_xIf : xIf t x y ρ = (t ρ).bind fun c ρ => bif c then x ρ else y ρ := by
  unfold xIf; congr; funext c ρ; cases c <;> rfl
@[simp] theorem ap_Drop : xDrop a ρ = (a ρ).bind fun _ ρ => .ok .nx ρ := id rfl
@[simp] theorem ap_Put : xPut tg a ρ = (a ρ).bind fun d ρ => (putT tg d ρ).bind fun _ ρ => .ok .nx ρ := id rfl
@[simp] theorem ap_putS : putT (.sl i) d ρ = if (ρ.getD i .un).isIo = true then .stuck else .ok () (ρ.set i (.val d)) := by unfold putT; rfl
@[simp] theorem ap_putT {ts : List Tg} {xs : List D} : putT (.tp ts) (.tup xs) ρ = if xs.length = lenT ts then putTs ts xs ρ else .stuck := by rw [putT]
@[simp] theorem ap_putNil : putTs [] [] ρ = .ok () ρ := by unfold putTs; rfl
@[simp] theorem ap_putCons {t : Tg} {ts : List Tg} {xs : List D} : putTs (t :: ts) (d :: xs) ρ = (putT t d ρ).bind fun _ ρ => putTs ts xs ρ := by rw [putTs]
@[simp] theorem lenT_nil : lenT [] = 0 := by unfold lenT; rfl
@[simp] theorem lenT_cons {t : Tg} {ts : List Tg} : lenT (t :: ts) = lenT ts + 1 := by rw [lenT]
@[simp] theorem isIo_un : SV.un.isIo = false := id rfl
@[simp] theorem isIo_val : (SV.val d).isIo = false := id rfl
@[simp] theorem isIo_own {p : Bool} {xs : List D} : (SV.own p xs).isIo = p := id rfl
@[simp] theorem isOwn_un : SV.un.isOwn = false := id rfl
@[simp] theorem isOwn_val : (SV.val d).isOwn = false := id rfl
@[simp] theorem isOwn_own {p : Bool} {xs : List D} : (SV.own p xs).isOwn = true := id rfl
@[simp] theorem flag_own {p q : Bool} {xs : List D} : (SV.own p xs).flag q = .own q xs := id rfl
@[simp] theorem ap_Call {m : List D → FR D} {n : Nat} {dd : List D} : mCall m n dd as ρ = (as ρ).bind fun ds ρ => (if ds.length + dd.length = n then m (ds ++ dd) else .stuck).lift ρ := id rfl
@[simp] theorem ap_CallN {m : List D → FR (List D)} {n : Nat} : mCallN m n as ρ = (as ρ).bind fun ds ρ => (if ds.length = n then m ds else .stuck).lift ρ := id rfl
@[simp] theorem ap_OfN : mOfN as ρ = (as ρ).bind fun ds ρ => .ok (.lst ds) ρ := id rfl
@[simp] theorem ap_LstN : mLstN as ρ = (as ρ).bind fun ds ρ => if ds.length ≤ sizeLine then .ok ds ρ else .stuck := id rfl
@[simp] theorem ap_xOwn : xOwn i as ρ = (as ρ).bind fun ds ρ => if (ρ.getD i .un).isIo = true then .stuck else .ok .nx (ρ.set i (.own false ds)) := id rfl
@[simp] theorem ap_IxN0 {p : Bool} {xs : List D} {s : List SV} : mIxN 0 a (.own p xs :: s) = (a (.own p xs :: s)).bind fun i ρ => match ρ.getD 0 .un, i with
    | .own _ xs, .int k => match atI xs k with
      | some d => .ok d ρ
      | none => .stuck
    | _, _ => .stuck := id rfl
@[simp] theorem ap_SetIx0 : xSetIx 0 a b ρ = (a ρ).bind fun v ρ => match ρ.getD 0 .un with
  | .own _ _ => (b ρ).bind fun i ρ => match ρ.getD 0 .un, i with
    | .own p xs, .int k => match ixN xs.length k with
      | some n => .ok .nx (ρ.set 0 (.own p (xs.set n v)))
      | none => .stuck
    | _, _ => .stuck
  | _ => .stuck := id rfl
@[simp] theorem ap_Io {mi : SV → List D → IR} {n : Nat} (ho : (ρ.getD j .un).isOwn = true) : mIo mi n j as ρ = (as ρ).bind fun ds ρ =>
    if ds.length = n ∧ (ρ.getD j .un).isOwn = true then match mi ((ρ.getD j .un).flag true) ds with
      | .ok d sv => .ok d (ρ.set j (sv.flag (ρ.getD j .un).isIo))
      | .exc x sv => .exc x (ρ.set j (sv.flag (ρ.getD j .un).isIo))
      | .stuck => .stuck
    else .stuck := by unfold mIo; exact if_pos ho
@[simp] theorem ap_For : xFor it tg x ρ = (it ρ).bind fun ds ρ => forM tg x ds ρ := id rfl
theorem ap_forC {ds : List D} : forM tg x (d :: ds) ρ = (putT tg d ρ).bind fun _ ρ => (x ρ).bind fun f ρ => match f with
    | .nx => forM tg x ds ρ
    | .ct => forM tg x ds ρ
    | .bk => .ok .nx ρ
    | .rt r => .ok (.rt r) ρ
    | .rn r => .ok (.rn r) ρ := id rfl
@[simp] theorem ap_forN : forM tg x [] ρ = .ok .nx ρ := id rfl
@[simp] theorem ap_Walk : mWalk a ρ = (a ρ).bind fun x ρ => (walkD x).lift ρ := id rfl
@[simp] theorem ap_ItL {q : List D → FR (List D)} : mItL q as ρ = (as ρ).bind fun xs ρ => (q xs).lift ρ := id rfl
@[simp] theorem ap_Lc {vs : List Nat} : mLc it vs tg t a ρ = (it ρ).bind fun ds ρ => (lcM vs tg t a ds [] ρ).nox := id rfl
@[simp] theorem ap_Fld {c f : Str} : xFld j c f a ρ = (a ρ).bind fun d ρ => match ρ.getD j .un with
  | .ins p c' ns ds => if c' = c ∧ ns.length < 1000 then .ok .nx (ρ.set j (.ins p c (putN f ns) (putX f d ns ds))) else .stuck
  | _ => .stuck := id rfl
@[simp] theorem ap_Make {c : Str} {mi : SV → List D → IR} {n : Nat} {dd : List D} : mMake c mi n dd as ρ = (as ρ).bind fun ds ρ => if ds.length + dd.length = n then match mi (.ins true c [] []) (ds ++ dd) with
    | .ok .non (.ins _ c' ns xs) => if c' = c then .ok (.obj c ns xs) ρ else .stuck
    | .exc x _ => .exc x ρ
    | _ => .stuck
  else .stuck := id rfl
@[simp] theorem ap_ListN : mListN as ρ = (as ρ).bind fun ds ρ => (listN ds).lift ρ := id rfl
@[simp] theorem ap_BinN {q : D → D → FR (List D)} : mBinN q a b ρ = (a ρ).bind fun x ρ => (b ρ).bind fun y ρ => (q x y).lift ρ := id rfl
@[simp] theorem ap_Slice {lo hi : M (Option Int)} : mSlice a lo hi ρ = (a ρ).bind fun x ρ => (lo ρ).bind fun l ρ => (hi ρ).bind fun h ρ => (sliceD x l h).lift ρ := id rfl
@[simp] theorem ap_ONone : mONone ρ = .ok Option.none ρ := id rfl
@[simp] theorem ap_OSome : mOSome a ρ = (a ρ).bind fun d ρ => match d with
  | .int i => .ok (some i) ρ
  | _ => .stuck := id rfl
@[simp] theorem listN_l {xs : List D} : listN [.lst xs] = .ok xs := id rfl
@[simp] theorem listN_t {xs : List D} : listN [.tup xs] = .ok xs := id rfl
@[simp] theorem isIo_ins {p : Bool} {c : Str} {ns : List Str} {ds : List D} : (SV.ins p c ns ds).isIo = p := id rfl
@[simp] theorem isOwn_ins {p : Bool} {c : Str} {ns : List Str} {ds : List D} : (SV.ins p c ns ds).isOwn = true := id rfl
@[simp] theorem ap_App0 {p : Bool} {ys : List D} {s : List SV} : mApp 0 a (.own p ys :: s) = (a (.own p ys :: s)).bind fun v ρ => match ρ.getD 0 .un with
    | .own p xs => if xs.length < sizeLine then .ok .non (ρ.set 0 (.own p (xs ++ [v]))) else .stuck
    | _ => .stuck := id rfl
@[simp] theorem ap_Len0 {p : Bool} {ys : List D} {s : List SV} : mLenN 0 (.own p ys :: s) = .ok (.int ys.length) (.own p ys :: s) := id rfl
@[simp] theorem ap_PopAt0 {p : Bool} {ys : List D} {s : List SV} : mPopAt 0 a (.own p ys :: s) = (a (.own p ys :: s)).bind fun v ρ => match ρ.getD 0 .un, v with
    | .own p xs, .int i => match seqIndex? i xs.length with
      | some k => if I63 i then match xs[k]? with
        | some d => .ok d (ρ.set 0 (.own p (xs.eraseIdx k)))
        | none => .stuck
        else .stuck
      | none => .stuck
    | _, _ => .stuck := id rfl
@[simp] theorem ap_VarO0 {ys : List D} {s : List SV} : mVar 0 (.own false ys :: s) = .ok (.lst ys) (.val (.lst ys) :: s) := id rfl
@[simp] theorem ap_App1 {s0 : SV} {p : Bool} {ys : List D} {s : List SV} : mApp 1 a (s0 :: .own p ys :: s) = (a (s0 :: .own p ys :: s)).bind fun v ρ => match ρ.getD 1 .un with
    | .own p xs => if xs.length < sizeLine then .ok .non (ρ.set 1 (.own p (xs ++ [v]))) else .stuck
    | _ => .stuck := id rfl
@[simp] theorem ap_Len1 {s0 : SV} {p : Bool} {ys : List D} {s : List SV} : mLenN 1 (s0 :: .own p ys :: s) = .ok (.int ys.length) (s0 :: .own p ys :: s) := id rfl
@[simp] theorem ap_PopAt1 {s0 : SV} {p : Bool} {ys : List D} {s : List SV} : mPopAt 1 a (s0 :: .own p ys :: s) = (a (s0 :: .own p ys :: s)).bind fun v ρ => match ρ.getD 1 .un, v with
    | .own p xs, .int i => match seqIndex? i xs.length with
      | some k => if I63 i then match xs[k]? with
        | some d => .ok d (ρ.set 1 (.own p (xs.eraseIdx k)))
        | none => .stuck
        else .stuck
      | none => .stuck
    | _, _ => .stuck := id rfl
@[simp] theorem ap_VarO1 {s0 : SV} {ys : List D} {s : List SV} : mVar 1 (s0 :: .own false ys :: s) = .ok (.lst ys) (s0 :: .val (.lst ys) :: s) := id rfl
@[simp] theorem ap_App2 {s0 s1 : SV} {p : Bool} {ys : List D} {s : List SV} : mApp 2 a (s0 :: s1 :: .own p ys :: s) = (a (s0 :: s1 :: .own p ys :: s)).bind fun v ρ => match ρ.getD 2 .un with
    | .own p xs => if xs.length < sizeLine then .ok .non (ρ.set 2 (.own p (xs ++ [v]))) else .stuck
    | _ => .stuck := id rfl
@[simp] theorem ap_Len2 {s0 s1 : SV} {p : Bool} {ys : List D} {s : List SV} : mLenN 2 (s0 :: s1 :: .own p ys :: s) = .ok (.int ys.length) (s0 :: s1 :: .own p ys :: s) := id rfl
@[simp] theorem ap_PopAt2 {s0 s1 : SV} {p : Bool} {ys : List D} {s : List SV} : mPopAt 2 a (s0 :: s1 :: .own p ys :: s) = (a (s0 :: s1 :: .own p ys :: s)).bind fun v ρ => match ρ.getD 2 .un, v with
    | .own p xs, .int i => match seqIndex? i xs.length with
      | some k => if I63 i then match xs[k]? with
        | some d => .ok d (ρ.set 2 (.own p (xs.eraseIdx k)))
        | none => .stuck
        else .stuck
      | none => .stuck
    | _, _ => .stuck := id rfl
@[simp] theorem ap_VarO2 {s0 s1 : SV} {ys : List D} {s : List SV} : mVar 2 (s0 :: s1 :: .own false ys :: s) = .ok (.lst ys) (s0 :: s1 :: .val (.lst ys) :: s) := id rfl
@[simp] theorem ap_App3 {s0 s1 s2 : SV} {p : Bool} {ys : List D} {s : List SV} : mApp 3 a (s0 :: s1 :: s2 :: .own p ys :: s) = (a (s0 :: s1 :: s2 :: .own p ys :: s)).bind fun v ρ => match ρ.getD 3 .un with
    | .own p xs => if xs.length < sizeLine then .ok .non (ρ.set 3 (.own p (xs ++ [v]))) else .stuck
    | _ => .stuck := id rfl
@[simp] theorem ap_Len3 {s0 s1 s2 : SV} {p : Bool} {ys : List D} {s : List SV} : mLenN 3 (s0 :: s1 :: s2 :: .own p ys :: s) = .ok (.int ys.length) (s0 :: s1 :: s2 :: .own p ys :: s) := id rfl
@[simp] theorem ap_PopAt3 {s0 s1 s2 : SV} {p : Bool} {ys : List D} {s : List SV} : mPopAt 3 a (s0 :: s1 :: s2 :: .own p ys :: s) = (a (s0 :: s1 :: s2 :: .own p ys :: s)).bind fun v ρ => match ρ.getD 3 .un, v with
    | .own p xs, .int i => match seqIndex? i xs.length with
      | some k => if I63 i then match xs[k]? with
        | some d => .ok d (ρ.set 3 (.own p (xs.eraseIdx k)))
        | none => .stuck
        else .stuck
      | none => .stuck
    | _, _ => .stuck := id rfl
@[simp] theorem ap_VarO3 {s0 s1 s2 : SV} {ys : List D} {s : List SV} : mVar 3 (s0 :: s1 :: s2 :: .own false ys :: s) = .ok (.lst ys) (s0 :: s1 :: s2 :: .val (.lst ys) :: s) := id rfl
@[simp] theorem ap_App4 {s0 s1 s2 s3 : SV} {p : Bool} {ys : List D} {s : List SV} : mApp 4 a (s0 :: s1 :: s2 :: s3 :: .own p ys :: s) = (a (s0 :: s1 :: s2 :: s3 :: .own p ys :: s)).bind fun v ρ => match ρ.getD 4 .un with
    | .own p xs => if xs.length < sizeLine then .ok .non (ρ.set 4 (.own p (xs ++ [v]))) else .stuck
    | _ => .stuck := id rfl
@[simp] theorem ap_Len4 {s0 s1 s2 s3 : SV} {p : Bool} {ys : List D} {s : List SV} : mLenN 4 (s0 :: s1 :: s2 :: s3 :: .own p ys :: s) = .ok (.int ys.length) (s0 :: s1 :: s2 :: s3 :: .own p ys :: s) := id rfl
@[simp] theorem ap_PopAt4 {s0 s1 s2 s3 : SV} {p : Bool} {ys : List D} {s : List SV} : mPopAt 4 a (s0 :: s1 :: s2 :: s3 :: .own p ys :: s) = (a (s0 :: s1 :: s2 :: s3 :: .own p ys :: s)).bind fun v ρ => match ρ.getD 4 .un, v with
    | .own p xs, .int i => match seqIndex? i xs.length with
      | some k => if I63 i then match xs[k]? with
        | some d => .ok d (ρ.set 4 (.own p (xs.eraseIdx k)))
        | none => .stuck
        else .stuck
      | none => .stuck
    | _, _ => .stuck := id rfl
@[simp] theorem ap_VarO4 {s0 s1 s2 s3 : SV} {ys : List D} {s : List SV} : mVar 4 (s0 :: s1 :: s2 :: s3 :: .own false ys :: s) = .ok (.lst ys) (s0 :: s1 :: s2 :: s3 :: .val (.lst ys) :: s) := id rfl
@[simp] theorem ap_App5 {s0 s1 s2 s3 s4 : SV} {p : Bool} {ys : List D} {s : List SV} : mApp 5 a (s0 :: s1 :: s2 :: s3 :: s4 :: .own p ys :: s) = (a (s0 :: s1 :: s2 :: s3 :: s4 :: .own p ys :: s)).bind fun v ρ => match ρ.getD 5 .un with
    | .own p xs => if xs.length < sizeLine then .ok .non (ρ.set 5 (.own p (xs ++ [v]))) else .stuck
    | _ => .stuck := id rfl
@[simp] theorem ap_Len5 {s0 s1 s2 s3 s4 : SV} {p : Bool} {ys : List D} {s : List SV} : mLenN 5 (s0 :: s1 :: s2 :: s3 :: s4 :: .own p ys :: s) = .ok (.int ys.length) (s0 :: s1 :: s2 :: s3 :: s4 :: .own p ys :: s) := id rfl
@[simp] theorem ap_PopAt5 {s0 s1 s2 s3 s4 : SV} {p : Bool} {ys : List D} {s : List SV} : mPopAt 5 a (s0 :: s1 :: s2 :: s3 :: s4 :: .own p ys :: s) = (a (s0 :: s1 :: s2 :: s3 :: s4 :: .own p ys :: s)).bind fun v ρ => match ρ.getD 5 .un, v with
    | .own p xs, .int i => match seqIndex? i xs.length with
      | some k => if I63 i then match xs[k]? with
        | some d => .ok d (ρ.set 5 (.own p (xs.eraseIdx k)))
        | none => .stuck
        else .stuck
      | none => .stuck
    | _, _ => .stuck := id rfl
@[simp] theorem ap_VarO5 {s0 s1 s2 s3 s4 : SV} {ys : List D} {s : List SV} : mVar 5 (s0 :: s1 :: s2 :: s3 :: s4 :: .own false ys :: s) = .ok (.lst ys) (s0 :: s1 :: s2 :: s3 :: s4 :: .val (.lst ys) :: s) := id rfl
@[simp] theorem ap_App6 {s0 s1 s2 s3 s4 s5 : SV} {p : Bool} {ys : List D} {s : List SV} : mApp 6 a (s0 :: s1 :: s2 :: s3 :: s4 :: s5 :: .own p ys :: s) = (a (s0 :: s1 :: s2 :: s3 :: s4 :: s5 :: .own p ys :: s)).bind fun v ρ => match ρ.getD 6 .un with
    | .own p xs => if xs.length < sizeLine then .ok .non (ρ.set 6 (.own p (xs ++ [v]))) else .stuck
    | _ => .stuck := id rfl
@[simp] theorem ap_Len6 {s0 s1 s2 s3 s4 s5 : SV} {p : Bool} {ys : List D} {s : List SV} : mLenN 6 (s0 :: s1 :: s2 :: s3 :: s4 :: s5 :: .own p ys :: s) = .ok (.int ys.length) (s0 :: s1 :: s2 :: s3 :: s4 :: s5 :: .own p ys :: s) := id rfl
@[simp] theorem ap_PopAt6 {s0 s1 s2 s3 s4 s5 : SV} {p : Bool} {ys : List D} {s : List SV} : mPopAt 6 a (s0 :: s1 :: s2 :: s3 :: s4 :: s5 :: .own p ys :: s) = (a (s0 :: s1 :: s2 :: s3 :: s4 :: s5 :: .own p ys :: s)).bind fun v ρ => match ρ.getD 6 .un, v with
    | .own p xs, .int i => match seqIndex? i xs.length with
      | some k => if I63 i then match xs[k]? with
        | some d => .ok d (ρ.set 6 (.own p (xs.eraseIdx k)))
        | none => .stuck
        else .stuck
      | none => .stuck
    | _, _ => .stuck := id rfl
@[simp] theorem ap_VarO6 {s0 s1 s2 s3 s4 s5 : SV} {ys : List D} {s : List SV} : mVar 6 (s0 :: s1 :: s2 :: s3 :: s4 :: s5 :: .own false ys :: s) = .ok (.lst ys) (s0 :: s1 :: s2 :: s3 :: s4 :: s5 :: .val (.lst ys) :: s) := id rfl
@[simp] theorem ap_App7 {s0 s1 s2 s3 s4 s5 s6 : SV} {p : Bool} {ys : List D} {s : List SV} : mApp 7 a (s0 :: s1 :: s2 :: s3 :: s4 :: s5 :: s6 :: .own p ys :: s) = (a (s0 :: s1 :: s2 :: s3 :: s4 :: s5 :: s6 :: .own p ys :: s)).bind fun v ρ => match ρ.getD 7 .un with
    | .own p xs => if xs.length < sizeLine then .ok .non (ρ.set 7 (.own p (xs ++ [v]))) else .stuck
    | _ => .stuck := id rfl
@[simp] theorem ap_Len7 {s0 s1 s2 s3 s4 s5 s6 : SV} {p : Bool} {ys : List D} {s : List SV} : mLenN 7 (s0 :: s1 :: s2 :: s3 :: s4 :: s5 :: s6 :: .own p ys :: s) = .ok (.int ys.length) (s0 :: s1 :: s2 :: s3 :: s4 :: s5 :: s6 :: .own p ys :: s) := id rfl
@[simp] theorem ap_PopAt7 {s0 s1 s2 s3 s4 s5 s6 : SV} {p : Bool} {ys : List D} {s : List SV} : mPopAt 7 a (s0 :: s1 :: s2 :: s3 :: s4 :: s5 :: s6 :: .own p ys :: s) = (a (s0 :: s1 :: s2 :: s3 :: s4 :: s5 :: s6 :: .own p ys :: s)).bind fun v ρ => match ρ.getD 7 .un, v with
    | .own p xs, .int i => match seqIndex? i xs.length with
      | some k => if I63 i then match xs[k]? with
        | some d => .ok d (ρ.set 7 (.own p (xs.eraseIdx k)))
        | none => .stuck
        else .stuck
      | none => .stuck
    | _, _ => .stuck := id rfl
@[simp] theorem ap_VarO7 {s0 s1 s2 s3 s4 s5 s6 : SV} {ys : List D} {s : List SV} : mVar 7 (s0 :: s1 :: s2 :: s3 :: s4 :: s5 :: s6 :: .own false ys :: s) = .ok (.lst ys) (s0 :: s1 :: s2 :: s3 :: s4 :: s5 :: s6 :: .val (.lst ys) :: s) := id rfl
@[simp] theorem ap_App8 {s0 s1 s2 s3 s4 s5 s6 s7 : SV} {p : Bool} {ys : List D} {s : List SV} : mApp 8 a (s0 :: s1 :: s2 :: s3 :: s4 :: s5 :: s6 :: s7 :: .own p ys :: s) = (a (s0 :: s1 :: s2 :: s3 :: s4 :: s5 :: s6 :: s7 :: .own p ys :: s)).bind fun v ρ => match ρ.getD 8 .un with
    | .own p xs => if xs.length < sizeLine then .ok .non (ρ.set 8 (.own p (xs ++ [v]))) else .stuck
    | _ => .stuck := id rfl
@[simp] theorem ap_Len8 {s0 s1 s2 s3 s4 s5 s6 s7 : SV} {p : Bool} {ys : List D} {s : List SV} : mLenN 8 (s0 :: s1 :: s2 :: s3 :: s4 :: s5 :: s6 :: s7 :: .own p ys :: s) = .ok (.int ys.length) (s0 :: s1 :: s2 :: s3 :: s4 :: s5 :: s6 :: s7 :: .own p ys :: s) := id rfl
@[simp] theorem ap_PopAt8 {s0 s1 s2 s3 s4 s5 s6 s7 : SV} {p : Bool} {ys : List D} {s : List SV} : mPopAt 8 a (s0 :: s1 :: s2 :: s3 :: s4 :: s5 :: s6 :: s7 :: .own p ys :: s) = (a (s0 :: s1 :: s2 :: s3 :: s4 :: s5 :: s6 :: s7 :: .own p ys :: s)).bind fun v ρ => match ρ.getD 8 .un, v with
    | .own p xs, .int i => match seqIndex? i xs.length with
      | some k => if I63 i then match xs[k]? with
        | some d => .ok d (ρ.set 8 (.own p (xs.eraseIdx k)))
        | none => .stuck
        else .stuck
      | none => .stuck
    | _, _ => .stuck := id rfl
@[simp] theorem ap_VarO8 {s0 s1 s2 s3 s4 s5 s6 s7 : SV} {ys : List D} {s : List SV} : mVar 8 (s0 :: s1 :: s2 :: s3 :: s4 :: s5 :: s6 :: s7 :: .own false ys :: s) = .ok (.lst ys) (s0 :: s1 :: s2 :: s3 :: s4 :: s5 :: s6 :: s7 :: .val (.lst ys) :: s) := id rfl
@[simp] theorem ap_App9 {s0 s1 s2 s3 s4 s5 s6 s7 s8 : SV} {p : Bool} {ys : List D} {s : List SV} : mApp 9 a (s0 :: s1 :: s2 :: s3 :: s4 :: s5 :: s6 :: s7 :: s8 :: .own p ys :: s) = (a (s0 :: s1 :: s2 :: s3 :: s4 :: s5 :: s6 :: s7 :: s8 :: .own p ys :: s)).bind fun v ρ => match ρ.getD 9 .un with
    | .own p xs => if xs.length < sizeLine then .ok .non (ρ.set 9 (.own p (xs ++ [v]))) else .stuck
    | _ => .stuck := id rfl
@[simp] theorem ap_Len9 {s0 s1 s2 s3 s4 s5 s6 s7 s8 : SV} {p : Bool} {ys : List D} {s : List SV} : mLenN 9 (s0 :: s1 :: s2 :: s3 :: s4 :: s5 :: s6 :: s7 :: s8 :: .own p ys :: s) = .ok (.int ys.length) (s0 :: s1 :: s2 :: s3 :: s4 :: s5 :: s6 :: s7 :: s8 :: .own p ys :: s) := id rfl
@[simp] theorem ap_PopAt9 {s0 s1 s2 s3 s4 s5 s6 s7 s8 : SV} {p : Bool} {ys : List D} {s : List SV} : mPopAt 9 a (s0 :: s1 :: s2 :: s3 :: s4 :: s5 :: s6 :: s7 :: s8 :: .own p ys :: s) = (a (s0 :: s1 :: s2 :: s3 :: s4 :: s5 :: s6 :: s7 :: s8 :: .own p ys :: s)).bind fun v ρ => match ρ.getD 9 .un, v with
    | .own p xs, .int i => match seqIndex? i xs.length with
      | some k => if I63 i then match xs[k]? with
        | some d => .ok d (ρ.set 9 (.own p (xs.eraseIdx k)))
        | none => .stuck
        else .stuck
      | none => .stuck
    | _, _ => .stuck := id rfl
@[simp] theorem ap_VarO9 {s0 s1 s2 s3 s4 s5 s6 s7 s8 : SV} {ys : List D} {s : List SV} : mVar 9 (s0 :: s1 :: s2 :: s3 :: s4 :: s5 :: s6 :: s7 :: s8 :: .own false ys :: s) = .ok (.lst ys) (s0 :: s1 :: s2 :: s3 :: s4 :: s5 :: s6 :: s7 :: s8 :: .val (.lst ys) :: s) := id rfl
@[simp] theorem ap_App10 {s0 s1 s2 s3 s4 s5 s6 s7 s8 s9 : SV} {p : Bool} {ys : List D} {s : List SV} : mApp 10 a (s0 :: s1 :: s2 :: s3 :: s4 :: s5 :: s6 :: s7 :: s8 :: s9 :: .own p ys :: s) = (a (s0 :: s1 :: s2 :: s3 :: s4 :: s5 :: s6 :: s7 :: s8 :: s9 :: .own p ys :: s)).bind fun v ρ => match ρ.getD 10 .un with
    | .own p xs => if xs.length < sizeLine then .ok .non (ρ.set 10 (.own p (xs ++ [v]))) else .stuck
    | _ => .stuck := id rfl
@[simp] theorem ap_Len10 {s0 s1 s2 s3 s4 s5 s6 s7 s8 s9 : SV} {p : Bool} {ys : List D} {s : List SV} : mLenN 10 (s0 :: s1 :: s2 :: s3 :: s4 :: s5 :: s6 :: s7 :: s8 :: s9 :: .own p ys :: s) = .ok (.int ys.length) (s0 :: s1 :: s2 :: s3 :: s4 :: s5 :: s6 :: s7 :: s8 :: s9 :: .own p ys :: s) := id rfl
@[simp] theorem ap_PopAt10 {s0 s1 s2 s3 s4 s5 s6 s7 s8 s9 : SV} {p : Bool} {ys : List D} {s : List SV} : mPopAt 10 a (s0 :: s1 :: s2 :: s3 :: s4 :: s5 :: s6 :: s7 :: s8 :: s9 :: .own p ys :: s) = (a (s0 :: s1 :: s2 :: s3 :: s4 :: s5 :: s6 :: s7 :: s8 :: s9 :: .own p ys :: s)).bind fun v ρ => match ρ.getD 10 .un, v with
    | .own p xs, .int i => match seqIndex? i xs.length with
      | some k => if I63 i then match xs[k]? with
        | some d => .ok d (ρ.set 10 (.own p (xs.eraseIdx k)))
        | none => .stuck
        else .stuck
      | none => .stuck
    | _, _ => .stuck := id rfl
@[simp] theorem ap_VarO10 {s0 s1 s2 s3 s4 s5 s6 s7 s8 s9 : SV} {ys : List D} {s : List SV} : mVar 10 (s0 :: s1 :: s2 :: s3 :: s4 :: s5 :: s6 :: s7 :: s8 :: s9 :: .own false ys :: s) = .ok (.lst ys) (s0 :: s1 :: s2 :: s3 :: s4 :: s5 :: s6 :: s7 :: s8 :: s9 :: .val (.lst ys) :: s) := id rfl
@[simp] theorem ap_App11 {s0 s1 s2 s3 s4 s5 s6 s7 s8 s9 s10 : SV} {p : Bool} {ys : List D} {s : List SV} : mApp 11 a (s0 :: s1 :: s2 :: s3 :: s4 :: s5 :: s6 :: s7 :: s8 :: s9 :: s10 :: .own p ys :: s) = (a (s0 :: s1 :: s2 :: s3 :: s4 :: s5 :: s6 :: s7 :: s8 :: s9 :: s10 :: .own p ys :: s)).bind fun v ρ => match ρ.getD 11 .un with
    | .own p xs => if xs.length < sizeLine then .ok .non (ρ.set 11 (.own p (xs ++ [v]))) else .stuck
    | _ => .stuck := id rfl
@[simp] theorem ap_Len11 {s0 s1 s2 s3 s4 s5 s6 s7 s8 s9 s10 : SV} {p : Bool} {ys : List D} {s : List SV} : mLenN 11 (s0 :: s1 :: s2 :: s3 :: s4 :: s5 :: s6 :: s7 :: s8 :: s9 :: s10 :: .own p ys :: s) = .ok (.int ys.length) (s0 :: s1 :: s2 :: s3 :: s4 :: s5 :: s6 :: s7 :: s8 :: s9 :: s10 :: .own p ys :: s) := id rfl
@[simp] theorem ap_PopAt11 {s0 s1 s2 s3 s4 s5 s6 s7 s8 s9 s10 : SV} {p : Bool} {ys : List D} {s : List SV} : mPopAt 11 a (s0 :: s1 :: s2 :: s3 :: s4 :: s5 :: s6 :: s7 :: s8 :: s9 :: s10 :: .own p ys :: s) = (a (s0 :: s1 :: s2 :: s3 :: s4 :: s5 :: s6 :: s7 :: s8 :: s9 :: s10 :: .own p ys :: s)).bind fun v ρ => match ρ.getD 11 .un, v with
    | .own p xs, .int i => match seqIndex? i xs.length with
      | some k => if I63 i then match xs[k]? with
        | some d => .ok d (ρ.set 11 (.own p (xs.eraseIdx k)))
        | none => .stuck
        else .stuck
      | none => .stuck
    | _, _ => .stuck := id rfl
@[simp] theorem ap_VarO11 {s0 s1 s2 s3 s4 s5 s6 s7 s8 s9 s10 : SV} {ys : List D} {s : List SV} : mVar 11 (s0 :: s1 :: s2 :: s3 :: s4 :: s5 :: s6 :: s7 :: s8 :: s9 :: s10 :: .own false ys :: s) = .ok (.lst ys) (s0 :: s1 :: s2 :: s3 :: s4 :: s5 :: s6 :: s7 :: s8 :: s9 :: s10 :: .val (.lst ys) :: s) := id rfl
@[simp] theorem ap_App12 {s0 s1 s2 s3 s4 s5 s6 s7 s8 s9 s10 s11 : SV} {p : Bool} {ys : List D} {s : List SV} : mApp 12 a (s0 :: s1 :: s2 :: s3 :: s4 :: s5 :: s6 :: s7 :: s8 :: s9 :: s10 :: s11 :: .own p ys :: s) = (a (s0 :: s1 :: s2 :: s3 :: s4 :: s5 :: s6 :: s7 :: s8 :: s9 :: s10 :: s11 :: .own p ys :: s)).bind fun v ρ => match ρ.getD 12 .un with
    | .own p xs => if xs.length < sizeLine then .ok .non (ρ.set 12 (.own p (xs ++ [v]))) else .stuck
    | _ => .stuck := id rfl
@[simp] theorem ap_Len12 {s0 s1 s2 s3 s4 s5 s6 s7 s8 s9 s10 s11 : SV} {p : Bool} {ys : List D} {s : List SV} : mLenN 12 (s0 :: s1 :: s2 :: s3 :: s4 :: s5 :: s6 :: s7 :: s8 :: s9 :: s10 :: s11 :: .own p ys :: s) = .ok (.int ys.length) (s0 :: s1 :: s2 :: s3 :: s4 :: s5 :: s6 :: s7 :: s8 :: s9 :: s10 :: s11 :: .own p ys :: s) := id rfl
@[simp] theorem ap_PopAt12 {s0 s1 s2 s3 s4 s5 s6 s7 s8 s9 s10 s11 : SV} {p : Bool} {ys : List D} {s : List SV} : mPopAt 12 a (s0 :: s1 :: s2 :: s3 :: s4 :: s5 :: s6 :: s7 :: s8 :: s9 :: s10 :: s11 :: .own p ys :: s) = (a (s0 :: s1 :: s2 :: s3 :: s4 :: s5 :: s6 :: s7 :: s8 :: s9 :: s10 :: s11 :: .own p ys :: s)).bind fun v ρ => match ρ.getD 12 .un, v with
    | .own p xs, .int i => match seqIndex? i xs.length with
      | some k => if I63 i then match xs[k]? with
        | some d => .ok d (ρ.set 12 (.own p (xs.eraseIdx k)))
        | none => .stuck
        else .stuck
      | none => .stuck
    | _, _ => .stuck := id rfl
@[simp] theorem ap_VarO12 {s0 s1 s2 s3 s4 s5 s6 s7 s8 s9 s10 s11 : SV} {ys : List D} {s : List SV} : mVar 12 (s0 :: s1 :: s2 :: s3 :: s4 :: s5 :: s6 :: s7 :: s8 :: s9 :: s10 :: s11 :: .own false ys :: s) = .ok (.lst ys) (s0 :: s1 :: s2 :: s3 :: s4 :: s5 :: s6 :: s7 :: s8 :: s9 :: s10 :: s11 :: .val (.lst ys) :: s) := id rfl
@[simp] theorem ap_Var12 {s0 s1 s2 s3 s4 s5 s6 s7 s8 s9 s10 s11 : SV} {s : List SV} : mVar 12 (s0 :: s1 :: s2 :: s3 :: s4 :: s5 :: s6 :: s7 :: s8 :: s9 :: s10 :: s11 :: .val d :: s) = .ok d (s0 :: s1 :: s2 :: s3 :: s4 :: s5 :: s6 :: s7 :: s8 :: s9 :: s10 :: s11 :: .val d :: s) := id rfl
@[simp] theorem ap_Var13 {s0 s1 s2 s3 s4 s5 s6 s7 s8 s9 s10 s11 s12 : SV} {s : List SV} : mVar 13 (s0 :: s1 :: s2 :: s3 :: s4 :: s5 :: s6 :: s7 :: s8 :: s9 :: s10 :: s11 :: s12 :: .val d :: s) = .ok d (s0 :: s1 :: s2 :: s3 :: s4 :: s5 :: s6 :: s7 :: s8 :: s9 :: s10 :: s11 :: s12 :: .val d :: s) := id rfl
@[simp] theorem ap_Var14 {s0 s1 s2 s3 s4 s5 s6 s7 s8 s9 s10 s11 s12 s13 : SV} {s : List SV} : mVar 14 (s0 :: s1 :: s2 :: s3 :: s4 :: s5 :: s6 :: s7 :: s8 :: s9 :: s10 :: s11 :: s12 :: s13 :: .val d :: s) = .ok d (s0 :: s1 :: s2 :: s3 :: s4 :: s5 :: s6 :: s7 :: s8 :: s9 :: s10 :: s11 :: s12 :: s13 :: .val d :: s) := id rfl
@[simp] theorem ap_Var15 {s0 s1 s2 s3 s4 s5 s6 s7 s8 s9 s10 s11 s12 s13 s14 : SV} {s : List SV} : mVar 15 (s0 :: s1 :: s2 :: s3 :: s4 :: s5 :: s6 :: s7 :: s8 :: s9 :: s10 :: s11 :: s12 :: s13 :: s14 :: .val d :: s) = .ok d (s0 :: s1 :: s2 :: s3 :: s4 :: s5 :: s6 :: s7 :: s8 :: s9 :: s10 :: s11 :: s12 :: s13 :: s14 :: .val d :: s) := id rfl
@[simp] theorem ap_Var16 {s0 s1 s2 s3 s4 s5 s6 s7 s8 s9 s10 s11 s12 s13 s14 s15 : SV} {s : List SV} : mVar 16 (s0 :: s1 :: s2 :: s3 :: s4 :: s5 :: s6 :: s7 :: s8 :: s9 :: s10 :: s11 :: s12 :: s13 :: s14 :: s15 :: .val d :: s) = .ok d (s0 :: s1 :: s2 :: s3 :: s4 :: s5 :: s6 :: s7 :: s8 :: s9 :: s10 :: s11 :: s12 :: s13 :: s14 :: s15 :: .val d :: s) := id rfl
@[simp] theorem ap_Var17 {s0 s1 s2 s3 s4 s5 s6 s7 s8 s9 s10 s11 s12 s13 s14 s15 s16 : SV} {s : List SV} : mVar 17 (s0 :: s1 :: s2 :: s3 :: s4 :: s5 :: s6 :: s7 :: s8 :: s9 :: s10 :: s11 :: s12 :: s13 :: s14 :: s15 :: s16 :: .val d :: s) = .ok d (s0 :: s1 :: s2 :: s3 :: s4 :: s5 :: s6 :: s7 :: s8 :: s9 :: s10 :: s11 :: s12 :: s13 :: s14 :: s15 :: s16 :: .val d :: s) := id rfl
@[simp] theorem ap_Var18 {s0 s1 s2 s3 s4 s5 s6 s7 s8 s9 s10 s11 s12 s13 s14 s15 s16 s17 : SV} {s : List SV} : mVar 18 (s0 :: s1 :: s2 :: s3 :: s4 :: s5 :: s6 :: s7 :: s8 :: s9 :: s10 :: s11 :: s12 :: s13 :: s14 :: s15 :: s16 :: s17 :: .val d :: s) = .ok d (s0 :: s1 :: s2 :: s3 :: s4 :: s5 :: s6 :: s7 :: s8 :: s9 :: s10 :: s11 :: s12 :: s13 :: s14 :: s15 :: s16 :: s17 :: .val d :: s) := id rfl
@[simp] theorem ap_Var19 {s0 s1 s2 s3 s4 s5 s6 s7 s8 s9 s10 s11 s12 s13 s14 s15 s16 s17 s18 : SV} {s : List SV} : mVar 19 (s0 :: s1 :: s2 :: s3 :: s4 :: s5 :: s6 :: s7 :: s8 :: s9 :: s10 :: s11 :: s12 :: s13 :: s14 :: s15 :: s16 :: s17 :: s18 :: .val d :: s) = .ok d (s0 :: s1 :: s2 :: s3 :: s4 :: s5 :: s6 :: s7 :: s8 :: s9 :: s10 :: s11 :: s12 :: s13 :: s14 :: s15 :: s16 :: s17 :: s18 :: .val d :: s) := id rfl
open Classical in
theorem ap_Peek {f : M D} {xs : List D} {ρ' : Ro} (h : ρ.getD j .un = .own false xs) (e : f (ρ.set j (.val (.lst xs))) = .ok d ρ') (h1 : noL d = true) (h2 : ρ'.getD j .un = .val (.lst xs)) (h3 : pkR j 0 ρ ρ') : mPeek j f ρ = .ok d (ρ'.set j (.own false xs)) := by
  unfold mPeek
  rw [h]
  show (match f (ρ.set j (SV.val (.lst xs))) with
    | R.ok d ρ' => if noL d = true ∧ ρ'.getD j .un = SV.val (.lst xs) ∧ pkR j 0 ρ ρ' then R.ok d (ρ'.set j (.own false xs)) else R.stuck
    | _ => R.stuck) = _
  rw [e]
  exact if_pos ⟨h1, h2, h3⟩
@[simp] theorem ap_Par {fs : M (List D)} : xPar i j fs ρ = (fs ρ).bind fun ds ρ => match ds with
  | [d, e] => (putT (.sl i) d ρ).bind fun _ ρ => (putT (.sl j) e ρ).bind fun _ ρ => .ok .nx ρ
  | _ => .stuck := id rfl
end
/-! ### operations -/
section
variable {i j : Int} {x y d e : D} {xs ys : List D} {n m : Nat}
@[simp] theorem op_addI : addD (.int i) (.int j) = .ok (.int (i + j)) := id rfl
@[simp] theorem op_subI : subD (.int i) (.int j) = .ok (.int (i - j)) := id rfl
theorem op_mulI (h : mulOk i j) : mulD (.int i) (.int j) = .ok (.int (i * j)) := if_pos h
theorem op_divI (h : divOk i j) : divD (.int i) (.int j) = .ok (.int (i.fdiv j)) := if_pos h
theorem op_modI (h : j ≠ 0) : modD (.int i) (.int j) = .ok (.int (i.fmod j)) := if_pos h
@[simp] theorem op_negI : negD (.int i) = .ok (.int (-i)) := id rfl
@[simp] theorem op_ltI : ltD (.int i) (.int j) = .ok (.bl (decide (i < j))) := id rfl
@[simp] theorem op_leI : leD (.int i) (.int j) = .ok (.bl (decide (i ≤ j))) := id rfl
@[simp] theorem op_gtI : gtD (.int i) (.int j) = .ok (.bl (decide (j < i))) := id rfl
@[simp] theorem op_geI : geD (.int i) (.int j) = .ok (.bl (decide (j ≤ i))) := id rfl
@[simp] theorem op_notB {b : Bool} : notD (.bl b) = .ok (.bl (!b)) := id rfl
@[simp] theorem op_eqII : eqD (.int i) (.int j) = .ok (.bl (decide (i = j))) := by
  unfold eqD eqv; simp [okD, py, PyData.eqv]; rfl
@[simp] theorem op_neII : neD (.int i) (.int j) = .ok (.bl (!decide (i = j))) := by
  unfold neD eqv; simp [okD, py, PyData.eqv]; rfl
theorem eqv_self (h : okD n x = true) : eqv x x = true := PySem.SeqAt.eqv_refl_plain _ (okD_py n x h).1
theorem op_eqS (h : okD 12 x = true) : eqD x x = .ok (.bl true) := by
  unfold eqD; rw [if_pos ⟨h, h⟩, eqv_self h]
theorem op_neS (h : okD 12 x = true) : neD x x = .ok (.bl false) := by
  unfold neD; rw [if_pos ⟨h, h⟩, eqv_self h]; rfl
@[simp] theorem okD_int : okD n (.int i) = true := by unfold okD; rfl
@[simp] theorem okD_str {z : Str} : okD n (.str z) = true := by unfold okD; rfl
@[simp] theorem okD_bl {b : Bool} : okD n (.bl b) = true := by unfold okD; rfl
@[simp] theorem okD_non : okD n .non = true := by unfold okD; rfl
@[simp] theorem okDs_nil : okDs n [] = true := by unfold okDs; rfl
@[simp] theorem okDs_cons : okDs n (x :: xs) = (okD n x && okDs n xs) := by rw [okDs]
@[simp] theorem okD_tup : okD (n + 1) (.tup xs) = okDs n xs := by rw [okD]
@[simp] theorem okD_lst : okD (n + 1) (.lst xs) = okDs n xs := by rw [okD]
@[simp] theorem okDs_ints : ∀ {ns : List Int}, okDs n (ns.map .int) = true
  | [] => by simp
  | a :: r => by simp [okDs_ints (ns := r)]
theorem okDs_all : ∀ {l : List D}, (∀ z ∈ l, okD n z = true) → okDs n l = true
  | [], _ => by simp
  | a :: r, h => by simp [h a (List.mem_cons_self ..), okDs_all (l := r) fun z hz => h z (List.mem_cons_of_mem _ hz)]
@[simp] theorem op_lenT : lenD [.tup xs] = .ok (.int xs.length) := id rfl
@[simp] theorem op_lenL : lenD [.lst xs] = .ok (.int xs.length) := id rfl
@[simp] theorem op_lenF : lenD [.frz xs] = .ok (.int xs.length) := id rfl
@[simp] theorem op_sum {ns : List Int} : sumD [.lst (ns.map .int)] = .ok (.int ns.sum) := by unfold sumD; simp only [intsD_map]
@[simp] theorem op_all {bs : List Bool} : allD [.lst (bs.map .bl)] = .ok (.bl (bs.all id)) := by unfold allD; simp only [blsD_map]
@[simp] theorem op_any {bs : List Bool} : anyD [.lst (bs.map .bl)] = .ok (.bl (bs.any id)) := by unfold anyD; simp only [blsD_map]
@[simp] theorem op_tupleL : tupleD [.lst xs] = .ok (.tup xs) := id rfl
@[simp] theorem op_tupleT : tupleD [.tup xs] = .ok (.tup xs) := id rfl
@[simp] theorem op_listL : listD [.lst xs] = .ok (.lst xs) := id rfl
@[simp] theorem op_listT : listD [.tup xs] = .ok (.lst xs) := id rfl
@[simp] theorem op_intI : intD [.int i] = .ok (.int i) := id rfl
@[simp] theorem op_intB {b : Bool} : intD [.bl b] = .ok (.int (if b then 1 else 0)) := id rfl
@[simp] theorem op_absI : absD [.int i] = .ok (.int (if i < 0 then -i else i)) := id rfl
@[simp] theorem op_max : max2D [.int i, .int j] = .ok (.int (if j > i then j else i)) := id rfl
@[simp] theorem op_min : min2D [.int i, .int j] = .ok (.int (if j < i then j else i)) := id rfl
@[simp] theorem op_isiII : isiD [.int i, .opq (.ty "int")] = .ok (.bl true) := id rfl
@[simp] theorem op_isiIB : isiD [.int i, .opq (.ty "bool")] = .ok (.bl false) := id rfl
@[simp] theorem op_isiTT : isiD [.tup xs, .opq (.ty "tuple")] = .ok (.bl true) := id rfl
@[simp] theorem op_isiSint {z : Str} : isiD [.str z, .opq (.ty "int")] = .ok (.bl false) := id rfl
@[simp] theorem op_isiSbool {z : Str} : isiD [.str z, .opq (.ty "bool")] = .ok (.bl false) := id rfl
@[simp] theorem op_isiSS {z : Str} : isiD [.str z, .opq (.ty "str")] = .ok (.bl true) := id rfl
@[simp] theorem op_isiStuple {z : Str} : isiD [.str z, .opq (.ty "tuple")] = .ok (.bl false) := id rfl
@[simp] theorem op_isiSlist {z : Str} : isiD [.str z, .opq (.ty "list")] = .ok (.bl false) := id rfl
@[simp] theorem op_isiSdict {z : Str} : isiD [.str z, .opq (.ty "dict")] = .ok (.bl false) := id rfl
@[simp] theorem op_isiTint : isiD [.tup xs, .opq (.ty "int")] = .ok (.bl false) := id rfl
@[simp] theorem op_isiTbool : isiD [.tup xs, .opq (.ty "bool")] = .ok (.bl false) := id rfl
@[simp] theorem op_isiTstr : isiD [.tup xs, .opq (.ty "str")] = .ok (.bl false) := id rfl
@[simp] theorem op_isiTlist : isiD [.tup xs, .opq (.ty "list")] = .ok (.bl false) := id rfl
@[simp] theorem op_isiTdict : isiD [.tup xs, .opq (.ty "dict")] = .ok (.bl false) := id rfl
@[simp] theorem op_isiLint : isiD [.lst xs, .opq (.ty "int")] = .ok (.bl false) := id rfl
@[simp] theorem op_isiLbool : isiD [.lst xs, .opq (.ty "bool")] = .ok (.bl false) := id rfl
@[simp] theorem op_isiLstr : isiD [.lst xs, .opq (.ty "str")] = .ok (.bl false) := id rfl
@[simp] theorem op_isiLtuple : isiD [.lst xs, .opq (.ty "tuple")] = .ok (.bl false) := id rfl
@[simp] theorem op_isiLlist : isiD [.lst xs, .opq (.ty "list")] = .ok (.bl true) := id rfl
@[simp] theorem op_isiLdict : isiD [.lst xs, .opq (.ty "dict")] = .ok (.bl false) := id rfl
@[simp] theorem op_isiIstr : isiD [.int i, .opq (.ty "str")] = .ok (.bl false) := id rfl
@[simp] theorem op_isiItuple : isiD [.int i, .opq (.ty "tuple")] = .ok (.bl false) := id rfl
@[simp] theorem op_isiIlist : isiD [.int i, .opq (.ty "list")] = .ok (.bl false) := id rfl
@[simp] theorem op_isiIdict : isiD [.int i, .opq (.ty "dict")] = .ok (.bl false) := id rfl
@[simp] theorem op_isiBint {b : Bool} : isiD [.bl b, .opq (.ty "int")] = .ok (.bl true) := id rfl
@[simp] theorem op_isiBbool {b : Bool} : isiD [.bl b, .opq (.ty "bool")] = .ok (.bl true) := id rfl
@[simp] theorem op_isiBstr {b : Bool} : isiD [.bl b, .opq (.ty "str")] = .ok (.bl false) := id rfl
@[simp] theorem op_isiBtuple {b : Bool} : isiD [.bl b, .opq (.ty "tuple")] = .ok (.bl false) := id rfl
@[simp] theorem op_isiBlist {b : Bool} : isiD [.bl b, .opq (.ty "list")] = .ok (.bl false) := id rfl
@[simp] theorem op_isiBdict {b : Bool} : isiD [.bl b, .opq (.ty "dict")] = .ok (.bl false) := id rfl
@[simp] theorem op_isiNint : isiD [.non, .opq (.ty "int")] = .ok (.bl false) := id rfl
@[simp] theorem op_isiNbool : isiD [.non, .opq (.ty "bool")] = .ok (.bl false) := id rfl
@[simp] theorem op_isiNstr : isiD [.non, .opq (.ty "str")] = .ok (.bl false) := id rfl
@[simp] theorem op_isiNtuple : isiD [.non, .opq (.ty "tuple")] = .ok (.bl false) := id rfl
@[simp] theorem op_isiNlist : isiD [.non, .opq (.ty "list")] = .ok (.bl false) := id rfl
@[simp] theorem op_isiNdict : isiD [.non, .opq (.ty "dict")] = .ok (.bl false) := id rfl
@[simp] theorem op_isiEint {ks : List Key} {ds : List D} : isiD [.dct ks ds, .opq (.ty "int")] = .ok (.bl false) := id rfl
@[simp] theorem op_isiEbool {ks : List Key} {ds : List D} : isiD [.dct ks ds, .opq (.ty "bool")] = .ok (.bl false) := id rfl
@[simp] theorem op_isiEstr {ks : List Key} {ds : List D} : isiD [.dct ks ds, .opq (.ty "str")] = .ok (.bl false) := id rfl
@[simp] theorem op_isiEtuple {ks : List Key} {ds : List D} : isiD [.dct ks ds, .opq (.ty "tuple")] = .ok (.bl false) := id rfl
@[simp] theorem op_isiElist {ks : List Key} {ds : List D} : isiD [.dct ks ds, .opq (.ty "list")] = .ok (.bl false) := id rfl
@[simp] theorem op_isiEdict {ks : List Key} {ds : List D} : isiD [.dct ks ds, .opq (.ty "dict")] = .ok (.bl true) := id rfl
@[simp] theorem op_isnt1 : isntD .non .non = .ok (.bl false) := id rfl
@[simp] theorem op_isnt2 : isntD (.int i) .non = .ok (.bl true) := id rfl
@[simp] theorem op_is1 : isD .non .non = .ok (.bl true) := id rfl
@[simp] theorem op_is2 : isD (.int i) .non = .ok (.bl false) := id rfl
@[simp] theorem op_is3 : isD (.tup xs) .non = .ok (.bl false) := id rfl
@[simp] theorem op_isnt3 : isntD (.tup xs) .non = .ok (.bl true) := id rfl
theorem atI_nat {α : Type} {l : List α} {k : Nat} : atI l (k : Int) = l[k]? := by
  unfold atI ixN
  rw [if_pos (by omega : 0 ≤ (k : Int))]
  by_cases h : k < l.length
  · rw [if_pos (by omega)]; simp
  · rw [if_neg (by omega)]; simp; omega
theorem ixD_tup {k : Nat} (h : xs[k]? = some d) : ixD (.tup xs) (.int k) = .ok d := by
  unfold ixD; simp only [atI_nat, h]
theorem ixD_lst {k : Nat} (h : xs[k]? = some d) : ixD (.lst xs) (.int k) = .ok d := by
  unfold ixD; simp only [atI_nat, h]
theorem ixD_frz {k : Nat} (h : xs[k]? = some d) : ixD (.frz xs) (.int k) = .ok d := by
  unfold ixD; simp only [atI_nat, h]
@[simp] theorem ix_l0 : ixD (.lst (x :: xs)) (.int 0) = .ok x := ixD_lst (k := 0) rfl
@[simp] theorem ix_l1 : ixD (.lst (x :: y :: xs)) (.int 1) = .ok y := ixD_lst (k := 1) rfl
@[simp] theorem ix_l2 : ixD (.lst (x :: y :: d :: xs)) (.int 2) = .ok d := ixD_lst (k := 2) rfl
@[simp] theorem ix_t0 : ixD (.tup (x :: xs)) (.int 0) = .ok x := ixD_tup (k := 0) rfl
@[simp] theorem ix_t1 : ixD (.tup (x :: y :: xs)) (.int 1) = .ok y := ixD_tup (k := 1) rfl
@[simp] theorem ix_t2 : ixD (.tup (x :: y :: d :: xs)) (.int 2) = .ok d := ixD_tup (k := 2) rfl
theorem tupD_of (h : xs.length ≤ sizeLine) : tupD xs = .ok (.tup xs) := if_pos h
theorem lstD_of (h : xs.length ≤ sizeLine) : lstD xs = .ok (.lst xs) := if_pos h
@[simp] theorem walk_lst : walkD (.lst xs) = .ok xs := id rfl
@[simp] theorem walk_frz : walkD (.frz xs) = .ok xs := id rfl
@[simp] theorem walk_tup : walkD (.tup xs) = .ok xs := id rfl
@[simp] theorem zip_tt : zipD [.tup xs, .tup ys] = .ok (xs.zipWith (fun x y => .tup [x, y]) ys) := id rfl
@[simp] theorem zip_ll : zipD [.lst xs, .lst ys] = .ok (xs.zipWith (fun x y => .tup [x, y]) ys) := id rfl
theorem range1_of (h : 0 ≤ i) (h' : i ≤ 1000000000) : range1D [.int i] = .ok ((List.range i.toNat).map fun (k : Nat) => .int k) := by
  have e : range1D [.int i] = if I62 i then .ok (rangeD 0 i) else .stuck := id rfl
  rw [e, if_pos ⟨by omega, by omega⟩]
  unfold rangeD
  simp
end
/-! ### comprehensions, loops -/
section
variable {ρ : Ro} {t : Tg} {el : M D} {i j : Nat}
/-- no test, the turn leaves the slots as they were -/
theorem lcM_run {vs : List Nat} {ρ : Ro} (hp : plainR ρ vs = true) : ∀ (ds : List D) (F : D → D) (acc : List D), ds.length + acc.length ≤ sizeLine →
    (∀ d ∈ ds, ∃ ρ1 ρ3, putT t d (wipeR ρ vs) = .ok () ρ1 ∧ el ρ1 = .ok (F d) ρ3 ∧ freeR ρ3 vs = true ∧ backR ρ ρ3 vs = ρ) → lcM vs t tYesM el ds acc ρ = .ok (acc ++ ds.map F) ρ
  | [], F, acc, _, _ => by simp [lcM]
  | d :: ds, F, acc, hl, h => by
    obtain ⟨ρ1, ρ3, e1, e2, e3, e4⟩ := h d (List.mem_cons_self ..)
    rw [List.length_cons] at hl
    rw [lcM, if_pos hp, e1, R.bind_ok, ap_tYes, R.bind_ok, if_pos rfl, e2, R.bind_ok, if_pos ⟨by omega, e3⟩, e4]
    rw [lcM_run hp ds F (acc ++ [F d]) (by rw [List.length_append, List.length_singleton]; omega) fun z hz => h z (List.mem_cons_of_mem _ hz)]
    simp
/-- with a test -/
theorem lcM_runT {c : M Bool} {vs : List Nat} {ρ : Ro} (hp : plainR ρ vs = true) : ∀ (ds : List D) (C : D → Bool) (F : D → D) (acc : List D), ds.length + acc.length ≤ sizeLine →
    (∀ d ∈ ds, ∃ ρ1 ρ2, putT t d (wipeR ρ vs) = .ok () ρ1 ∧ c ρ1 = .ok (C d) ρ2 ∧ freeR ρ2 vs = true ∧ backR ρ ρ2 vs = ρ ∧ (C d = true → ∃ ρ3, el ρ2 = .ok (F d) ρ3 ∧ freeR ρ3 vs = true ∧ backR ρ ρ3 vs = ρ)) →
    lcM vs t c el ds acc ρ = .ok (acc ++ (ds.filter C).map F) ρ
  | [], C, F, acc, _, _ => by simp [lcM]
  | d :: ds, C, F, acc, hl, h => by
    obtain ⟨ρ1, ρ2, e1, e2, e3, e4, e5⟩ := h d (List.mem_cons_self ..)
    rw [List.length_cons] at hl
    rw [lcM, if_pos hp, e1, R.bind_ok, e2, R.bind_ok]
    cases hc : C d with
    | true =>
      obtain ⟨ρ3, f1, f2, f3⟩ := e5 hc
      rw [if_pos rfl, f1, R.bind_ok, if_pos ⟨by omega, f2⟩, f3]
      rw [lcM_runT hp ds C F (acc ++ [F d]) (by rw [List.length_append, List.length_singleton]; omega) fun z hz => h z (List.mem_cons_of_mem _ hz)]
      simp [hc]
    | false =>
      rw [if_neg (by simp), if_pos e3, e4]
      rw [lcM_runT hp ds C F acc (by omega) fun z hz => h z (List.mem_cons_of_mem _ hz)]
      simp [hc]
theorem all_const {β : Type} {l : List β} {b : Bool} (h : l ≠ []) : (l.all fun _ => b) = b := by
  cases l with
  | nil => exact absurd rfl h
  | cons x l => cases b <;> simp
@[simp] theorem plainR_nil : plainR ρ [] = true := id rfl
@[simp] theorem plainR_cons {v : Nat} {vs : List Nat} : plainR ρ (v :: vs) = (!(ρ.getD v .un).isFar && plainR ρ vs) := id rfl
@[simp] theorem isFar_un : SV.un.isFar = false := id rfl
@[simp] theorem isFar_val : (SV.val d).isFar = false := id rfl
@[simp] theorem isFar_own {p : Bool} {xs : List D} : (SV.own p xs).isFar = true := id rfl
@[simp] theorem isFar_ins {p : Bool} {c : Str} {ns : List Str} {ds : List D} : (SV.ins p c ns ds).isFar = true := id rfl
@[simp] theorem isIo_pin : SV.pin.isIo = true := id rfl
@[simp] theorem isFar_pin : SV.pin.isFar = true := id rfl
@[simp] theorem isOwn_pin : SV.pin.isOwn = false := id rfl
@[simp] theorem freeR_nil : freeR ρ [] = true := id rfl
@[simp] theorem freeR_cons {v : Nat} {vs : List Nat} : freeR ρ (v :: vs) = (!(ρ.getD v .un).isIo && freeR ρ vs) := id rfl
@[simp] theorem wipeR_nil : wipeR ρ [] = ρ := id rfl
@[simp] theorem wipeR_cons {v : Nat} {vs : List Nat} : wipeR ρ (v :: vs) = (wipeR ρ vs).set v .un := id rfl
@[simp] theorem backR_nil {ρ0 : Ro} : backR ρ0 ρ [] = ρ := id rfl
@[simp] theorem backR_cons {ρ0 : Ro} {v : Nat} {vs : List Nat} : backR ρ0 ρ (v :: vs) = (backR ρ0 ρ vs).set v (ρ0.getD v .un) := id rfl
end
/-! ### the same, by turns -/
section
variable {t : Tg} {el : M D} {vs : List Nat}
/-- one turn of a comprehension -/
def turnM (vs : List Nat) (t : Tg) (el : M D) (ρ : Ro) (d : D) : R D := (putT t d (wipeR ρ vs)).bind fun _ ρ1 => (el ρ1).bind fun y ρ3 => bif freeR ρ3 vs then .ok y (backR ρ ρ3 vs) else .stuck
theorem turnM_ok {ρ ρ' : Ro} {d y : D} (h : turnM vs t el ρ d = .ok y ρ') : ∃ ρ1 ρ3, putT t d (wipeR ρ vs) = .ok () ρ1 ∧ el ρ1 = .ok y ρ3 ∧ freeR ρ3 vs = true ∧ backR ρ ρ3 vs = ρ' := by
  unfold turnM at h
  cases e : putT t d (wipeR ρ vs) with
  | ok u ρ1 =>
    rw [e, R.bind_ok] at h
    cases e2 : el ρ1 with
    | ok z ρ3 =>
      rw [e2, R.bind_ok] at h
      cases e3 : freeR ρ3 vs with
      | true => rw [e3] at h; cases h; exact ⟨_, _, rfl, e2, e3, rfl⟩
      | false => rw [e3] at h; cases h
    | exc x ρ3 => rw [e2] at h; cases h
    | stuck => rw [e2] at h; cases h
  | exc x ρ3 => rw [e] at h; cases h
  | stuck => rw [e] at h; cases h
theorem lcM_map {β : Type} {ρ : Ro} (g : β → D) (l : List β) (F : β → D) (hp : plainR ρ vs = true) (hl : l.length ≤ sizeLine) (h : ∀ x ∈ l, turnM vs t el ρ (g x) = .ok (F x) ρ) :
    lcM vs t tYesM el (l.map g) [] ρ = .ok (l.map F) ρ := by
  have main : ∀ (l : List β) (acc : List D), l.length + acc.length ≤ sizeLine → (∀ x ∈ l, turnM vs t el ρ (g x) = .ok (F x) ρ) → lcM vs t tYesM el (l.map g) acc ρ = .ok (acc ++ l.map F) ρ := by
    intro l
    induction l with
    | nil => intro acc _ _; simp [lcM]
    | cons d ds ih =>
      intro acc hl h
      obtain ⟨ρ1, ρ3, e1, e2, e3, e4⟩ := turnM_ok (h d (List.mem_cons_self ..))
      rw [List.length_cons] at hl
      rw [List.map_cons, lcM, if_pos hp, e1, R.bind_ok, ap_tYes, R.bind_ok, if_pos rfl, e2, R.bind_ok, if_pos ⟨by omega, e3⟩, e4]
      rw [ih (acc ++ [F d]) (by rw [List.length_append, List.length_singleton]; omega) fun z hz => h z (List.mem_cons_of_mem _ hz)]
      simp
  have := main l [] (by simpa using hl) h
  simpa using this
/-- turns that change the slots: I n holds behind n of them -/
theorem lcM_run2 {I : Nat → Ro → Prop} {P : D → Prop} : ∀ (ds : List D) (acc : List D) (n : Nat) (ρ : Ro), ds.length + acc.length ≤ sizeLine → I n ρ →
    (∀ d ∈ ds, ∀ k ρ, n ≤ k → k < n + ds.length → I k ρ → plainR ρ vs = true ∧ ∃ y ρ', turnM vs t el ρ d = .ok y ρ' ∧ I (k + 1) ρ' ∧ P y) →
    ∃ ys ρ', lcM vs t tYesM el ds acc ρ = .ok (acc ++ ys) ρ' ∧ I (n + ds.length) ρ' ∧ ys.length = ds.length ∧ ∀ y ∈ ys, P y
  | [], acc, n, ρ, _, h0, _ => ⟨[], ρ, by simp [lcM], h0, rfl, by simp⟩
  | d :: ds, acc, n, ρ, hl, h0, h => by
    rw [List.length_cons] at hl h
    obtain ⟨hp, y, ρ', e, h1, py⟩ := h d (List.mem_cons_self ..) n ρ (Nat.le_refl _) (by omega) h0
    obtain ⟨ρ1, ρ3, e1, e2, e3, e4⟩ := turnM_ok e
    obtain ⟨ys, ρ'', f, i, l, p⟩ := lcM_run2 ds (acc ++ [y]) (n + 1) ρ' (by rw [List.length_append, List.length_singleton]; omega) h1 fun z hz k ρ a b i => h z (List.mem_cons_of_mem _ hz) k ρ (by omega) (by omega) i
    refine ⟨y :: ys, ρ'', ?_, by rw [List.length_cons, show n + (ds.length + 1) = n + 1 + ds.length by omega]; exact i, by simp [l], fun z hz => ?_⟩
    · rw [lcM, if_pos hp, e1, R.bind_ok, ap_tYes, R.bind_ok, if_pos rfl, e2, R.bind_ok, if_pos ⟨by omega, e3⟩, e4, f]
      simp
    · rcases List.mem_cons.mp hz with e | e
      · rw [e]; exact py
      · exact p z e
theorem ints_of {p : Int → Prop} : ∀ {ys : List D}, (∀ y ∈ ys, ∃ k, y = .int k ∧ p k) → ∃ ks : List Int, ys = ks.map .int ∧ ∀ k ∈ ks, p k
  | [], _ => ⟨[], rfl, by simp⟩
  | y :: ys, h => by
    obtain ⟨k, e, q⟩ := h y (List.mem_cons_self ..)
    obtain ⟨ks, e2, q2⟩ := ints_of fun z hz => h z (List.mem_cons_of_mem _ hz)
    exact ⟨k :: ks, by rw [e, e2]; rfl, fun z hz => by
      rcases List.mem_cons.mp hz with e | e
      · rw [e]; exact q
      · exact q2 z e⟩
/-- a for's turn -/
def turnF (t : Tg) (body : M Fl) (ρ : Ro) (d : D) : R Fl := (putT t d ρ).bind fun _ ρ => body ρ
theorem forM_inv {body : M Fl} {I : Nat → Ro → Prop} : ∀ (ds : List D) (n : Nat) (ρ : Ro), I n ρ →
    (∀ d ∈ ds, ∀ k ρ, n ≤ k → k < n + ds.length → I k ρ → ∃ ρ', turnF t body ρ d = .ok .nx ρ' ∧ I (k + 1) ρ') →
    ∃ ρ', forM t body ds ρ = .ok .nx ρ' ∧ I (n + ds.length) ρ'
  | [], n, ρ, h0, _ => ⟨ρ, rfl, h0⟩
  | d :: ds, n, ρ, h0, h => by
    rw [List.length_cons] at h
    obtain ⟨ρ', e, i⟩ := h d (List.mem_cons_self ..) n ρ (Nat.le_refl _) (by omega) h0
    obtain ⟨ρ'', f, j⟩ := forM_inv ds (n + 1) ρ' i fun z hz k ρ a b i => h z (List.mem_cons_of_mem _ hz) k ρ (by omega) (by omega) i
    refine ⟨ρ'', ?_, by rw [List.length_cons, show n + (ds.length + 1) = n + 1 + ds.length by omega]; exact j⟩
    unfold turnF at e
    cases e1 : putT t d ρ with
    | ok u ρ1 =>
      rw [e1, R.bind_ok] at e
      show ((putT t d ρ).bind fun _ ρ => (body ρ).bind fun f ρ => _) = _
      rw [e1, R.bind_ok, e, R.bind_ok]
      exact f
    | exc x ρ3 => rw [e1] at e; cases e
    | stuck => rw [e1] at e; cases e
theorem lcM_zip {ρ : Ro} (xs ys : List Int) (F : Int → Int → D) (hp : plainR ρ vs = true) (hl : xs.length ≤ sizeLine) (h : ∀ x ∈ xs, ∀ y ∈ ys, turnM vs t el ρ (.tup [.int x, .int y]) = .ok (F x y) ρ) :
    lcM vs t tYesM el (xs.zipWith (fun x y => D.tup [.int x, .int y]) ys) [] ρ = .ok (xs.zipWith F ys) ρ := by
  have := lcM_map (el := el) (t := t) (vs := vs) (ρ := ρ) (fun p : Int × Int => D.tup [.int p.1, .int p.2]) (xs.zip ys) (fun p => F p.1 p.2) hp (by rw [List.length_zip]; exact Nat.le_trans (Nat.min_le_left _ _) hl) fun p hp => h _ (List.of_mem_zip hp).1 _ (List.of_mem_zip hp).2
  simpa [List.zip, List.map_zipWith] using this
@[simp] theorem op_sumF {β : Type} {l : List β} {f : β → Int} : sumD [.lst (l.map fun x => .int (f x))] = .ok (.int (l.map f).sum) := by
  have := op_sum (ns := l.map f)
  rw [List.map_map] at this
  exact this
@[simp] theorem op_sumZ {β γ : Type} {l : List β} {l' : List γ} {f : β → γ → Int} : sumD [.lst (l.zipWith (fun x y => .int (f x y)) l')] = .ok (.int (l.zipWith f l').sum) := by
  have := op_sum (ns := l.zipWith f l')
  rw [List.map_zipWith] at this
  exact this
@[simp] theorem op_allF {β : Type} {l : List β} {f : β → Bool} : allD [.lst (l.map fun x => .bl (f x))] = .ok (.bl (l.all f)) := by
  have := op_all (bs := l.map f)
  rw [List.map_map] at this
  rw [show (List.map (fun x => D.bl (f x)) l) = List.map (D.bl ∘ f) l from rfl, this]
  simp
@[simp] theorem op_anyF {β : Type} {l : List β} {f : β → Bool} : anyD [.lst (l.map fun x => .bl (f x))] = .ok (.bl (l.any f)) := by
  have := op_any (bs := l.map f)
  rw [List.map_map] at this
  rw [show (List.map (fun x => D.bl (f x)) l) = List.map (D.bl ∘ f) l from rfl, this]
  simp
@[simp] theorem okDs_intF {β : Type} {n : Nat} {f : β → Int} {l : List β} : okDs n (l.map fun x => .int (f x)) = true := okDs_all fun z hz => by
  obtain ⟨x, _, e⟩ := List.mem_map.mp hz
  rw [← e]; simp
@[simp] theorem okDs_intZ {β γ : Type} {n : Nat} {f : β → γ → Int} {l : List β} {l' : List γ} : okDs n (l.zipWith (fun x y => .int (f x y)) l') = true := by
  have := okDs_ints (n := n) (ns := l.zipWith f l')
  rw [List.map_zipWith] at this
  exact this
end
/-! ### turns with a test -/
section
variable {t : Tg} {c : M Bool} {el : M D} {vs : List Nat}
/-- one turn with a test -/
def turnO (vs : List Nat) (t : Tg) (c : M Bool) (el : M D) (ρ : Ro) (d : D) : R (Option D) := (putT t d (wipeR ρ vs)).bind fun _ ρ1 => (c ρ1).bind fun k ρ2 =>
  bif k then (el ρ2).bind fun y ρ3 => bif freeR ρ3 vs then .ok (some y) (backR ρ ρ3 vs) else .stuck
  else bif freeR ρ2 vs then .ok none (backR ρ ρ2 vs) else .stuck
theorem lcM_step {ρ ρ' : Ro} {d : D} {o : Option D} {ds acc : List D} (hp : plainR ρ vs = true) (hl : acc.length < sizeLine) (h : turnO vs t c el ρ d = .ok o ρ') :
    lcM vs t c el (d :: ds) acc ρ = lcM vs t c el ds (acc ++ o.toList) ρ' := by
  unfold turnO at h
  rw [lcM, if_pos hp]
  cases e1 : putT t d (wipeR ρ vs) with
  | ok u ρ1 =>
    rw [e1, R.bind_ok] at h
    rw [R.bind_ok]
    cases e2 : c ρ1 with
    | ok k ρ2 =>
      rw [e2, R.bind_ok] at h
      rw [R.bind_ok]
      cases k with
      | true =>
        rw [if_pos rfl]
        have h : ((el ρ2).bind fun y ρ3 => bif freeR ρ3 vs then R.ok (some y) (backR ρ ρ3 vs) else .stuck) = .ok o ρ' := h
        cases e3 : el ρ2 with
        | ok y ρ3 =>
          rw [e3, R.bind_ok] at h
          rw [R.bind_ok]
          cases e4 : freeR ρ3 vs with
          | true => rw [e4] at h; cases h; rw [if_pos ⟨hl, rfl⟩]; rfl
          | false => rw [e4] at h; cases h
        | exc x ρ3 => rw [e3] at h; cases h
        | stuck => rw [e3] at h; cases h
      | false =>
        rw [if_neg Bool.false_ne_true]
        have h : (bif freeR ρ2 vs then R.ok (none : Option D) (backR ρ ρ2 vs) else .stuck) = .ok o ρ' := h
        cases e4 : freeR ρ2 vs with
        | true => rw [e4] at h; cases h; rw [if_pos rfl]; simp
        | false => rw [e4] at h; cases h
    | exc x ρ3 => rw [e2] at h; cases h
    | stuck => rw [e2] at h; cases h
  | exc x ρ3 => rw [e1] at h; cases h
  | stuck => rw [e1] at h; cases h
/-- turns that leave the slots as they are -/
theorem lcM_opt {β : Type} {ρ : Ro} (g : β → D) (l : List β) (F : β → Option D) (hp : plainR ρ vs = true) (hl : l.length ≤ sizeLine) (h : ∀ x ∈ l, turnO vs t c el ρ (g x) = .ok (F x) ρ) :
    lcM vs t c el (l.map g) [] ρ = .ok (l.filterMap F) ρ := by
  have main : ∀ (l : List β) (acc : List D), l.length + acc.length ≤ sizeLine → (∀ x ∈ l, turnO vs t c el ρ (g x) = .ok (F x) ρ) → lcM vs t c el (l.map g) acc ρ = .ok (acc ++ l.filterMap F) ρ := by
    intro l
    induction l with
    | nil => intro acc _ _; simp [lcM]
    | cons d ds ih =>
      intro acc hl h
      rw [List.length_cons] at hl
      rw [List.map_cons, lcM_step hp (by omega) (h d (List.mem_cons_self ..))]
      have l1 : (F d).toList.length ≤ 1 := by cases F d <;> simp
      rw [ih _ (by rw [List.length_append]; omega) fun z hz => h z (List.mem_cons_of_mem _ hz)]
      cases e : F d <;> simp [e]
  have := main l [] (by simpa using hl) h
  simpa using this
/-- turns that change the slots, I n behind n of them -/
theorem lcM_opt2 {I : Nat → Ro → Prop} {F : D → Option D} : ∀ (ds : List D) (acc : List D) (n : Nat) (ρ : Ro), ds.length + acc.length ≤ sizeLine → I n ρ →
    (∀ d ∈ ds, ∀ k ρ, n ≤ k → k < n + ds.length → I k ρ → plainR ρ vs = true ∧ ∃ ρ', turnO vs t c el ρ d = .ok (F d) ρ' ∧ I (k + 1) ρ') →
    ∃ ρ', lcM vs t c el ds acc ρ = .ok (acc ++ ds.filterMap F) ρ' ∧ I (n + ds.length) ρ'
  | [], acc, n, ρ, _, h0, _ => ⟨ρ, by simp [lcM], h0⟩
  | d :: ds, acc, n, ρ, hl, h0, h => by
    rw [List.length_cons] at hl h
    obtain ⟨hp, ρ', e, h1⟩ := h d (List.mem_cons_self ..) n ρ (Nat.le_refl _) (by omega) h0
    have l1 : (F d).toList.length ≤ 1 := by cases F d <;> simp
    obtain ⟨ρ'', f, i⟩ := lcM_opt2 ds (acc ++ (F d).toList) (n + 1) ρ' (by rw [List.length_append]; omega) h1 fun z hz k ρ a b i => h z (List.mem_cons_of_mem _ hz) k ρ (by omega) (by omega) i
    refine ⟨ρ'', ?_, by rw [List.length_cons, show n + (ds.length + 1) = n + 1 + ds.length by omega]; exact i⟩
    rw [lcM_step hp (by omega) e, f]
    cases e : F d <;> simp [e]
end
end Mr
namespace Mr
open PySem PySem.Spec PyProof.Rows L2
/-! ### the law's bowl: what its draws are worth -/
theorem op_pow {i j : Int} {a : Nat} (h0 : 0 ≤ j) (h : Sz a i) (l : (a : Int) * j ≤ 2 ^ 27) : powD (.int i) (.int j) = .ok (.int (i ^ j.toNat)) := by
  have h1 := h.bits
  refine if_pos ⟨h0, ?_⟩
  have : (Builtin.Int.intBits i : Int) * j ≤ (a : Int) * j := Int.mul_le_mul_of_nonneg_right (by omega) h0
  omega
theorem sz_ten : Sz 4 10 := by unfold Sz; decide
def T18 : Int := 10 ^ 18
def T19 : Int := 10 ^ 19
def T60 : Int := 10 ^ 60
def T61 : Int := 10 ^ 61
def T671 : Int := 10 ^ 671
theorem sz_T18 : Sz 60 T18 := by unfold Sz T18; decide
theorem sz_T19 : Sz 64 T19 := by unfold Sz T19; decide
theorem sz_T60 : Sz 200 T60 := by unfold Sz T60; decide
theorem sz_T61 : Sz 203 T61 := by unfold Sz T61; decide
theorem sz_T671 : Sz 2300 T671 := by unfold Sz T671; decide
theorem pos_T18 : 0 < T18 := by unfold T18; decide
theorem pos_T19 : 0 < T19 := by unfold T19; decide
theorem pos_T60 : 0 < T60 := by unfold T60; decide
theorem pos_T671 : 0 < T671 := by unfold T671; decide
@[simp] theorem pow_18 : powD (.int 10) (.int 18) = .ok (.int T18) := op_pow (by decide) sz_ten (by decide)
@[simp] theorem pow_19 : powD (.int 10) (.int 19) = .ok (.int T19) := op_pow (by decide) sz_ten (by decide)
@[simp] theorem pow_60 : powD (.int 10) (.int 60) = .ok (.int T60) := op_pow (by decide) sz_ten (by decide)
@[simp] theorem pow_61 : powD (.int 10) (.int 61) = .ok (.int T61) := op_pow (by decide) sz_ten (by decide)
@[simp] theorem pow_671 : powD (.int T61) (.int 11) = .ok (.int T671) := by
  rw [op_pow (by decide) sz_T61 (by decide)]
  have : T61 ^ (11 : Int).toNat = T671 := by unfold T61 T671; decide
  rw [this]
def B_bowl : M Fl :=
  (xSeq (xPut (.sl 2) (mIf (tOf (m2 ltD (mVar 1) (mL lenD (mCons (mVar 0) mNil)))) (m2 ixD (mVar 0) (mVar 1)) (m2 addD (m2 mulD (mC (.int 61)) (mVar 1)) (mC (.int 31)))))
  (xSeq (xPut (.sl 3) (m2 modD (mL intD (mCons (mL absD (mCons (mVar 2) mNil)) mNil)) (m2 powD (m2 powD (mC (.int 10)) (mC (.int 61))) (mC (.int 11)))))
  (xSeq (xPut (.sl 4) (m2 addD (m2 addD (m2 addD (m2 mulD (m2 modD (mL intD (mCons (mVar 3) mNil)) (mC (.int 2147483269))) (mC (.int 95273))) (m2 mulD (mC (.int 9403)) (mVar 1))) (m2 mulD (mC (.int 43)) (mL intD (mCons (m2 ltD (mVar 2) (mC (.int 0))) mNil)))) (mC (.int 71))))
  (xRetN (mLstN (mCons (mL max2D (mCons (mC (.int 0)) (mCons (m2 subD (mVar 3) (m2 powD (mC (.int 10)) (mC (.int 18)))) mNil))) (mCons (m2 modD (mL intD (mCons (mVar 4) mNil)) (mC (.int 2305843009213693907))) (mCons (mC (.int 0)) mNil))))))))
/-- a bowl from which at most n were drawn -/
def Bowl (n : Nat) (xs : List D) : Prop := ∃ a b c : Int, xs = [.int a, .int b, .int c] ∧ 0 ≤ a ∧ Sz 2300 a ∧ 0 ≤ b ∧ Sz 61 b ∧ 0 ≤ c ∧ c ≤ n
theorem Bowl.mono {n m : Nat} {xs : List D} (h : Bowl n xs) (l : n ≤ m) : Bowl m xs := by
  obtain ⟨a, b, c, rfl, a0, a1, b0, b1, c0, c1⟩ := h
  exact ⟨a, b, c, rfl, a0, a1, b0, b1, c0, by omega⟩
theorem mulOkS {i j : Int} {a b : Nat} (h : Sz a i) (h' : Sz b j) (l : a + b ≤ 134217728 := by decide) : mulOk i j := h.mulOk h' l
theorem sz_small {i : Int} (h0 : 0 ≤ i) (h1 : i < 18446744073709551616) : Sz 64 i := Sz.of_nat h0 h1
theorem E_bowl {ns : List Int} {k : Nat} (hk : k < 64) : ∃ xs, runN 5 B_bowl [.frz (ns.map .int), .int k] = .ok xs ∧ Bowl 0 xs := by
  obtain ⟨c, hc⟩ : ∃ c : Int, (k < ns.length ∧ (ns.map D.int)[k]? = some (.int c)) ∨ (¬ k < ns.length ∧ mulOk 61 k ∧ c = 61 * k + 31) := by
    by_cases h : k < ns.length
    · exact ⟨ns[k], .inl ⟨h, by simp [h]⟩⟩
    · exact ⟨61 * k + 31, .inr ⟨h, mulOkS (a := 64) (b := 64) (sz_small (by decide) (by decide)) (sz_small (by omega) (by omega)), rfl⟩⟩
  have hg1 : (0:Int) ≤ (if c < 0 then -c else c).fmod T671 := Int.fmod_nonneg_of_pos _ pos_T671
  have hg2 : Sz 2300 ((if c < 0 then -c else c).fmod T671) := sz_T671.fmod pos_T671
  obtain ⟨g, hg⟩ : ∃ g, g = (if c < 0 then -c else c).fmod T671 := ⟨_, rfl⟩
  rw [← hg] at hg1 hg2
  have b1 := Int.fmod_nonneg_of_pos g (show (0:Int) < 2147483269 by decide)
  have b2 := Int.fmod_lt_of_pos g (show (0:Int) < 2147483269 by decide)
  have m1 : mulOk (g.fmod 2147483269) 95273 := mulOkS (a := 64) (b := 64) (sz_small b1 (by omega)) (sz_small (by decide) (by decide))
  have m2 : mulOk 9403 k := mulOkS (a := 64) (b := 64) (sz_small (by decide) (by decide)) (sz_small (by omega) (by omega))
  have m3 : mulOk 43 (if c < 0 then 1 else 0) := mulOkS (a := 64) (b := 64) (sz_small (by decide) (by decide)) (by split <;> exact sz_small (by decide) (by decide))
  have m4 : T671 ≠ 0 := by have := pos_T671; omega
  refine ⟨[.int (if g - T18 > 0 then g - T18 else 0), .int (((((g.fmod 2147483269) * 95273) + 9403 * k) + 43 * (if c < 0 then 1 else 0) + 71).fmod 2305843009213693907), .int 0], ?_, ?_⟩
  · unfold runN B_bowl
    rcases hc with ⟨h, e⟩ | ⟨h, m0, rfl⟩
    · simp [h, ixD_frz e, op_modI m4, ← hg, op_modI, op_mulI m1, op_mulI m2, op_mulI m3, sizeLine_eq]
    · simp [h, op_mulI m0, op_modI m4, ← hg, op_modI, op_mulI m1, op_mulI m2, op_mulI m3, sizeLine_eq]
  · refine ⟨_, _, _, rfl, ?_, ?_, ?_, ?_, ?_, ?_⟩
    · split <;> omega
    · split
      · refine hg2.of_abs ?_
        have := pos_T18
        omega
      · exact Sz.zero
    · exact Int.fmod_nonneg_of_pos _ (by decide)
    · exact Sz.fmod (by unfold Sz; decide) (by decide)
    · decide
    · decide
def B_bit : M Fl :=
  (xSeq (xIf (tOf (m2 gtD (mIxN 0 (mC (.int 0))) (mC (.int 0)))) (xSeq (xPut (.sl 4) (m2 modD (mL intD (mCons (mIxN 0 (mC (.int 0))) mNil)) (mVar 1)))
  (xSeq (xSetIx 0 (m2 divD (mIxN 0 (mC (.int 0))) (mVar 1)) (mC (.int 0)))
  (xRet (mVar 4)))) xNx)
  (xSeq (xSetIx 0 (m2 addD (mIxN 0 (mC (.int 2))) (mC (.int 1))) (mC (.int 2)))
  (xSeq (xPut (.sl 2) (m2 modD (mL intD (mCons (m2 addD (mIxN 0 (mC (.int 1))) (m2 mulD (mC (.int 1000427)) (mIxN 0 (mC (.int 2))))) mNil)) (mC (.int 2305843009213693951))))
  (xSeq (xPut (.sl 3) (m2 addD (m2 mulD (m2 modD (mL intD (mCons (m2 mulD (mVar 2) (mVar 2)) mNil)) (mC (.int 2305843009213693921))) (mVar 2)) (m2 mulD (mC (.int 9091)) (mIxN 0 (mC (.int 2))))))
  (xRet (m2 modD (mL intD (mCons (m2 divD (m2 modD (mL intD (mCons (mVar 3) mNil)) (mC (.int 2305843009213693907))) (mC (.int 16384))) mNil)) (mVar 1)))))))
@[simp] theorem at0 {a b c : D} : atI [a, b, c] 0 = some a := id rfl
@[simp] theorem at1 {a b c : D} : atI [a, b, c] 1 = some b := id rfl
@[simp] theorem at2 {a b c : D} : atI [a, b, c] 2 = some c := id rfl
@[simp] theorem ix0' : ixN 3 0 = some 0 := id rfl
@[simp] theorem ix2' : ixN 3 2 = some 2 := id rfl
/-- a draw: 0 to m - 1 -/
theorem E_bit {xs : List D} {n : Nat} {m : Int} (h : Bowl n xs) (hm : 0 < m) (hs : Sz 9000 m) (hn : n < 1000000) : ∃ (k : Int) (ys : List D), runI 5 B_bit (.own true xs) [.int m] = .ok (.int k) (.own true ys) ∧ 0 ≤ k ∧ k < m ∧ Bowl (n + 1) ys := by
  obtain ⟨a, b, c, rfl, a0, a1, b0, b1, c0, c1⟩ := h
  have hm0 : m ≠ 0 := by omega
  by_cases ha : 0 < a
  · refine ⟨a.fmod m, [.int (a.fdiv m), .int b, .int c], ?_, Int.fmod_nonneg_of_pos _ hm, Int.fmod_lt_of_pos _ hm, _, _, _, rfl, ?_, ?_, b0, b1, c0, by omega⟩
    · unfold runI B_bit
      simp [ha, op_modI hm0, op_divI (hs.divOk hm0)]
    · exact Int.fdiv_nonneg a0 (by omega)
    · refine a1.of_abs ?_
      rw [Int.fdiv_eq_ediv_of_nonneg _ (by omega)]
      have := Int.ediv_le_self m a0
      have := Int.ediv_nonneg a0 (by omega : 0 ≤ m)
      omega
  · have sc : Sz 64 (c + 1) := sz_small (by omega) (by omega)
    have m1 : mulOk 1000427 (c + 1) := mulOkS (a := 64) (b := 64) (sz_small (by decide) (by decide)) sc
    have m2 : mulOk 9091 (c + 1) := mulOkS (a := 64) (b := 64) (sz_small (by decide) (by decide)) sc
    obtain ⟨o, ho⟩ : ∃ o, o = (b + 1000427 * (c + 1)).fmod 2305843009213693951 := ⟨_, rfl⟩
    have o1 : 0 ≤ o := by rw [ho]; exact Int.fmod_nonneg_of_pos _ (by decide)
    have o2 : o < 2305843009213693951 := by rw [ho]; exact Int.fmod_lt_of_pos _ (by decide)
    have so : Sz 64 o := sz_small o1 (by omega)
    have m3 : mulOk o o := mulOkS so so
    have s4 : Sz 64 ((o * o).fmod 2305843009213693921) := Sz.fmod (sz_small (by decide) (by decide)) (by decide)
    have m4 : mulOk ((o * o).fmod 2305843009213693921) o := mulOkS s4 so
    have d1 : ∀ i : Int, divOk i 16384 := fun i => Sz.divOk (b := 64) (sz_small (by decide) (by decide)) (by decide)
    refine ⟨((((((o * o).fmod 2305843009213693921) * o + 9091 * (c + 1)).fmod 2305843009213693907).fdiv 16384).fmod m), [.int a, .int b, .int (c + 1)], ?_, ?_, ?_, ?_⟩
    · unfold runI B_bit
      simp [ha, op_mulI m1, op_modI, ← ho, op_mulI m3, op_mulI m4, op_mulI m2, op_divI (d1 _), op_modI hm0]
    · exact Int.fmod_nonneg_of_pos _ hm
    · exact Int.fmod_lt_of_pos _ hm
    · exact ⟨_, _, _, rfl, a0, a1, b0, b1, by omega, by omega⟩
end Mr
namespace Pm
open PySem PySem.Spec PyProof.Rows L2 Mr
def c_GREATEST : Int := 99999999999999999999999999999999999999999999999999999999999999999999999999999999999999999999999999999999999999999999999999999999999999999999999999999999999999999999999999999999999999999999999999999999
def c_WIDEST : Int := 4
def c_NULL : Str := Str.ofString "null"
def c_LEAST : Str := Str.ofString "least"
def c_MORE : Str := Str.ofString "more"
def c_MAX_ROWS : Int := 6
def c_MAX_SIZE : Int := 99999999999999999999
def c_MAX_STRANDS : Int := 12
def c_MAX_WIDTH : Int := 4
def c_MAX_LETTERS : Int := 8
def c_MOST_NAMES : Int := 3
def c_MAX_STEP : Int := 20
def c_MAX_MULTIPLIER : Int := 9
def c_SIGNS : List D := [.str (Str.ofString "more"), .str (Str.ofString "least")]
def c_MAX_TEST_NUMBER : Int := 99
def c_MAX_TESTS : Int := 4
def c_MAX_ROUNDS : Int := 400
def c_OTHER_SIGNS : List (Str × Option Str) := [(Str.ofString "more", some (Str.ofString "least")), (Str.ofString "least", some (Str.ofString "more")), (Str.ofString "null", none)]
def c_LEAST_systems : Str := Str.ofString "least"
def c_MORE_systems : Str := Str.ofString "more"
/-! _law_bowl -/
noncomputable def b__law_bowl : M Fl :=
  (xSeq (xPut (.sl 2) (mIf (tOf (m2 ltD (mVar 1) (mL lenD (mCons (mVar 0) mNil)))) (m2 ixD (mVar 0) (mVar 1)) (m2 addD (m2 mulD (mC (.int 61)) (mVar 1)) (mC (.int 31)))))
  (xSeq (xPut (.sl 3) (m2 modD (mL intD (mCons (mL absD (mCons (mVar 2) mNil)) mNil)) (m2 powD (m2 powD (mC (.int 10)) (mC (.int 61))) (mC (.int 11)))))
  (xSeq (xPut (.sl 4) (m2 addD (m2 addD (m2 addD (m2 mulD (m2 modD (mL intD (mCons (mVar 3) mNil)) (mC (.int 2147483269))) (mC (.int 95273))) (m2 mulD (mC (.int 9403)) (mVar 1))) (m2 mulD (mC (.int 43)) (mL intD (mCons (m2 ltD (mVar 2) (mC (.int 0))) mNil)))) (mC (.int 71))))
  (xRetN (mLstN (mCons (mL max2D (mCons (mC (.int 0)) (mCons (m2 subD (mVar 3) (m2 powD (mC (.int 10)) (mC (.int 18)))) mNil))) (mCons (m2 modD (mL intD (mCons (mVar 4) mNil)) (mC (.int 2305843009213693907))) (mCons (mC (.int 0)) mNil))))))))
noncomputable def m__law_bowl : List D → FR (List D) := runN 5 b__law_bowl
/-! is_integer -/
noncomputable def b_is_integer : M Fl :=
  (xRet (mAnd (mL isiD (mCons (mVar 0) (mCons (mC (.opq (.ty "int"))) mNil))) (mAnd (m1 notD (mL isiD (mCons (mVar 0) (mCons (mC (.opq (.ty "bool"))) mNil)))) (mChain leD leD (m1 negD (mC (.int c_GREATEST))) (mVar 0) (mC (.int c_GREATEST))))))
noncomputable def m_is_integer : List D → FR D := runF 1 b_is_integer
/-! is_row -/
noncomputable def e1_is_row : M D :=
  (mCall m_is_integer 1 [] (mCons (mVar 1) mNil))
noncomputable def q1_is_row : M (List D) :=
  mLc (mWalk (mVar 0)) [1] (.sl 1) tYesM e1_is_row
noncomputable def b_is_row : M Fl :=
  (xSeq (xIf (tOr (tNot (tOf (mL isiD (mCons (mVar 0) (mCons (mC (.opq (.ty "tuple"))) mNil))))) (tNot (tOf (mChain leD leD (mC (.int 1)) (mL lenD (mCons (mVar 0) mNil)) (mC (.int c_WIDEST)))))) (xRet (mC (.bl false))) xNx)
  (xRet (mL allD (mCons (mOfN q1_is_row) mNil))))
noncomputable def m_is_row : List D → FR D := runF 2 b_is_row
/-! require_row -/
noncomputable def b_require_row : M Fl :=
  (xIf (tOr (tNot (tOf (mCall m_is_row 1 [] (mCons (mVar 0) mNil)))) (tAnd (tOf (m2 isntD (mVar 1) (mC .non))) (tOf (m2 neD (mL lenD (mCons (mVar 0) mNil)) (mVar 1))))) (xRaise (Str.ofString "InvalidForm")) xNx)
noncomputable def m_require_row : List D → FR D := runF 2 b_require_row
/-! value_by -/
noncomputable def e1_value_by : M D :=
  (m2 mulD (mVar 2) (mVar 3))
noncomputable def q1_value_by : M (List D) :=
  mLc (mItL zipMD (mCons (mVar 0) (mCons (mVar 1) mNil))) [2, 3] (.tp [(.sl 2), (.sl 3)]) tYesM e1_value_by
noncomputable def b_value_by : M Fl :=
  (xRet (mL sumD (mCons (mOfN q1_value_by) mNil)))
noncomputable def m_value_by : List D → FR D := runF 4 b_value_by
/-! value_of -/
noncomputable def b_value_of : M Fl :=
  (xSeq (xDrop (mCall m_require_row 2 [D.non] (mCons (mVar 0) mNil)))
  (xSeq (xIf (tOr (tNot (tOf (mCall m_is_row 1 [] (mCons (mVar 1) mNil)))) (tOf (m2 neD (mL lenD (mCons (mVar 1) mNil)) (mL lenD (mCons (mVar 0) mNil))))) (xRaise (Str.ofString "InvalidOperation")) xNx)
  (xRet (mCall m_value_by 2 [] (mCons (mVar 0) (mCons (mVar 1) mNil))))))
noncomputable def m_value_of : List D → FR D := runF 2 b_value_of
/-! added -/
noncomputable def e1_added : M D :=
  (m2 addD (mVar 2) (mVar 3))
noncomputable def q1_added : M (List D) :=
  mLc (mItL zipMD (mCons (mVar 0) (mCons (mVar 1) mNil))) [2, 3] (.tp [(.sl 2), (.sl 3)]) tYesM e1_added
noncomputable def b_added : M Fl :=
  (xSeq (xDrop (mCall m_require_row 2 [D.non] (mCons (mVar 0) mNil)))
  (xSeq (xDrop (mCall m_require_row 2 [] (mCons (mVar 1) (mCons (mL lenD (mCons (mVar 0) mNil)) mNil))))
  (xRet (mL tupleD (mCons (mOfN q1_added) mNil)))))
noncomputable def m_added : List D → FR D := runF 4 b_added
/-! scaled -/
noncomputable def e1_scaled : M D :=
  (m2 mulD (mVar 1) (mVar 2))
noncomputable def q1_scaled : M (List D) :=
  mLc (mWalk (mVar 0)) [2] (.sl 2) tYesM e1_scaled
noncomputable def b_scaled : M Fl :=
  (xSeq (xDrop (mCall m_require_row 2 [D.non] (mCons (mVar 0) mNil)))
  (xSeq (xIf (tNot (tOf (mCall m_is_integer 1 [] (mCons (mVar 1) mNil)))) (xRaiseX (Str.ofString "InvalidNumber") (mCons (mVar 1) mNil)) xNx)
  (xRet (mL tupleD (mCons (mOfN q1_scaled) mNil)))))
noncomputable def m_scaled : List D → FR D := runF 3 b_scaled
/-! _law_bit -/
noncomputable def b__law_bit : M Fl :=
  (xSeq (xIf (tOf (m2 gtD (mIxN 0 (mC (.int 0))) (mC (.int 0)))) (xSeq (xPut (.sl 4) (m2 modD (mL intD (mCons (mIxN 0 (mC (.int 0))) mNil)) (mVar 1)))
  (xSeq (xSetIx 0 (m2 divD (mIxN 0 (mC (.int 0))) (mVar 1)) (mC (.int 0)))
  (xRet (mVar 4)))) xNx)
  (xSeq (xSetIx 0 (m2 addD (mIxN 0 (mC (.int 2))) (mC (.int 1))) (mC (.int 2)))
  (xSeq (xPut (.sl 2) (m2 modD (mL intD (mCons (m2 addD (mIxN 0 (mC (.int 1))) (m2 mulD (mC (.int 1000427)) (mIxN 0 (mC (.int 2))))) mNil)) (mC (.int 2305843009213693951))))
  (xSeq (xPut (.sl 3) (m2 addD (m2 mulD (m2 modD (mL intD (mCons (m2 mulD (mVar 2) (mVar 2)) mNil)) (mC (.int 2305843009213693921))) (mVar 2)) (m2 mulD (mC (.int 9091)) (mIxN 0 (mC (.int 2))))))
  (xRet (m2 modD (mL intD (mCons (m2 divD (m2 modD (mL intD (mCons (mVar 3) mNil)) (mC (.int 2305843009213693907))) (mC (.int 16384))) mNil)) (mVar 1)))))))
noncomputable def m__law_bit : SV → List D → IR := runI 5 b__law_bit
/-! _law_size -/
noncomputable def b__law_size : M Fl :=
  (xSeq (xPut (.sl 1) (mIo m__law_bit 1 0 (mCons (mC (.int 6)) mNil)))
  (xSeq (xPut (.sl 2) (m2 ixD (mL lstD (mCons (mC (.int 1)) (mCons (mC (.int 2)) (mCons (mC (.int 12)) (mCons (mC (.int 1000)) (mCons (m2 powD (mC (.int 10)) (mC (.int 19))) (mCons (m2 powD (mC (.int 10)) (mC (.int 60))) mNil))))))) (mVar 1)))
  (xRet (m2 subD (mIo m__law_bit 1 0 (mCons (m2 addD (m2 mulD (mC (.int 2)) (mVar 2)) (mC (.int 1))) mNil)) (mVar 2)))))
noncomputable def m__law_size : SV → List D → IR := runI 3 b__law_size
/-! _law_amount -/
noncomputable def e1__law_amount : M D :=
  (m2 mulD (mVar 2) (mVar 3))
noncomputable def q1__law_amount : M (List D) :=
  mLc (mItL zipMD (mCons (mVar 0) (mCons (mVar 1) mNil))) [2, 3] (.tp [(.sl 2), (.sl 3)]) tYesM e1__law_amount
noncomputable def b__law_amount : M Fl :=
  (xRet (mL sumD (mCons (mOfN q1__law_amount) mNil)))
noncomputable def m__law_amount : List D → FR D := runF 4 b__law_amount
/-! _law_right -/
noncomputable def e1__law_right_k07 : M D :=
  (mIo m__law_size 0 0 mNil)
noncomputable def q1__law_right_k07 : M (List D) :=
  mLc (mItL range1D (mCons (mVar 1) mNil)) [10] (.sl 10) tYesM e1__law_right_k07
noncomputable def e2__law_right_k07 : M D :=
  (mIo m__law_size 0 0 mNil)
noncomputable def q2__law_right_k07 : M (List D) :=
  mLc (mItL range1D (mCons (mVar 1) mNil)) [10] (.sl 10) tYesM e2__law_right_k07
noncomputable def e3__law_right_k07 : M D :=
  (mIo m__law_size 0 0 mNil)
noncomputable def q3__law_right_k07 : M (List D) :=
  mLc (mItL range1D (mCons (mVar 1) mNil)) [10] (.sl 10) tYesM e3__law_right_k07
noncomputable def e4__law_right_k07 : M D :=
  (m2 addD (m2 ixD (mVar 4) (mVar 10)) (m2 ixD (mVar 5) (mVar 10)))
noncomputable def q4__law_right_k07 : M (List D) :=
  mLc (mItL range1D (mCons (mVar 1) mNil)) [10] (.sl 10) tYesM e4__law_right_k07
noncomputable def e5__law_right_k07 : M D :=
  (m2 mulD (mVar 7) (mVar 11))
noncomputable def q5__law_right_k07 : M (List D) :=
  mLc (mWalk (mVar 4)) [11] (.sl 11) tYesM e5__law_right_k07
noncomputable def b__law_right_k07 : M Fl :=
  (xSeq (xPut (.sl 1) (m2 addD (mC (.int 1)) (mIo m__law_bit 1 0 (mCons (mC (.int 4)) mNil))))
  (xSeq (xPut (.tp [(.sl 4), (.sl 5)]) (mL tupD (mCons (mL tupleD (mCons (mOfN q2__law_right_k07) mNil)) (mCons (mL tupleD (mCons (mOfN q1__law_right_k07) mNil)) mNil))))
  (xSeq (xPut (.tp [(.sl 6), (.sl 7)]) (mL tupD (mCons (mL tupleD (mCons (mOfN q3__law_right_k07) mNil)) (mCons (mIo m__law_size 0 0 mNil) mNil))))
  (xSeq (xPar 8 9 (mCons (mCall m_added 2 [] (mCons (mVar 4) (mCons (mVar 5) mNil))) (mCons (mCall m_scaled 2 [] (mCons (mVar 4) (mCons (mVar 7) mNil))) mNil)))
  (xSeq (xIf (tOr (tOf (m2 neD (mVar 8) (mL tupleD (mCons (mOfN q4__law_right_k07) mNil)))) (tOf (m2 neD (mCall m_added 2 [] (mCons (mVar 5) (mCons (mVar 4) mNil))) (mVar 8)))) (xRet (mC (.bl false))) xNx)
  (xSeq (xIf (tOr (tOf (m2 neD (mVar 9) (mL tupleD (mCons (mOfN q5__law_right_k07) mNil)))) (tOr (tOf (m2 neD (mCall m_scaled 2 [] (mCons (mVar 4) (mCons (mC (.int 1)) mNil))) (mVar 4))) (tOf (m2 neD (mCall m_scaled 2 [] (mCons (mVar 4) (mCons (mC (.int 0)) mNil))) (m2 mulD (mL tupD (mCons (mC (.int 0)) mNil)) (mVar 1)))))) (xRet (mC (.bl false))) xNx)
  (xSeq (xPut (.sl 2) (mL lstD (mCons (mCall m_value_of 2 [] (mCons (mVar 4) (mCons (mVar 6) mNil))) (mCons (mCall m_value_of 2 [] (mCons (mVar 5) (mCons (mVar 6) mNil))) (mCons (mCall m_value_of 2 [] (mCons (mVar 6) (mCons (mVar 4) mNil))) mNil)))))
  (xSeq (xPut (.sl 3) (mL lstD (mCons (mCall m__law_amount 2 [] (mCons (mVar 4) (mCons (mVar 6) mNil))) (mCons (mCall m__law_amount 2 [] (mCons (mVar 5) (mCons (mVar 6) mNil))) (mCons (mCall m__law_amount 2 [] (mCons (mVar 4) (mCons (mVar 6) mNil))) mNil)))))
  (xSeq (xIf (tOr (tOf (m2 neD (mVar 2) (mVar 3))) (tOr (tOf (m2 neD (mCall m_value_of 2 [] (mCons (mVar 4) (mCons (mVar 6) mNil))) (m2 ixD (mVar 3) (mC (.int 0))))) (tOf (m2 neD (mCall m_value_of 2 [] (mCons (mVar 6) (mCons (mVar 4) mNil))) (m2 ixD (mVar 3) (mC (.int 0))))))) (xRet (mC (.bl false))) xNx)
  (xSeq (xIf (tOr (tOf (m2 neD (mCall m_value_of 2 [] (mCons (mVar 8) (mCons (mVar 6) mNil))) (m2 addD (m2 ixD (mVar 3) (mC (.int 0))) (m2 ixD (mVar 3) (mC (.int 1)))))) (tOf (m2 neD (mCall m_value_of 2 [] (mCons (mVar 9) (mCons (mVar 6) mNil))) (m2 mulD (mVar 7) (m2 ixD (mVar 3) (mC (.int 0))))))) (xRet (mC (.bl false))) xNx)
  (xRet (m2 eqD (mCall m_value_of 2 [] (mCons (mVar 6) (mCons (mVar 8) mNil))) (m2 addD (m2 ixD (mVar 3) (mC (.int 0))) (m2 ixD (mVar 3) (mC (.int 1))))))))))))))))
noncomputable def m__law_right_k07 : SV → List D → IR := runI 12 b__law_right_k07
/-! law -/
noncomputable def y1_law_k07 : M Fl :=
  (xIf (tNot (tOf (mIo m__law_right_k07 0 3 mNil))) (xRet (mC (.bl false))) xNx)
noncomputable def f1_law_k07 : M Fl :=
  xFor (mItL range1D (mCons (mC (.int 8)) mNil)) (.sl 4) y1_law_k07
noncomputable def y2_law_k07 : M Fl :=
  (xSeq (xOwn 3 (mCallN m__law_bowl 2 (mCons (mVar 0) (mCons (mVar 1) mNil))))
  f1_law_k07)
noncomputable def f2_law_k07 : M Fl :=
  xFor (mItL range1D (mCons (mL max2D (mCons (mC (.int 1)) (mCons (mL min2D (mCons (mC (.int 8)) (mCons (mL lenD (mCons (mVar 0) mNil)) mNil))) mNil))) mNil)) (.sl 1) y2_law_k07
noncomputable def b_law_k07 : M Fl :=
  (xSeq f2_law_k07
  (xSeq (xPut (.sl 2) (mL lstD (mCons (mCall m_value_of 2 [] (mCons (mL tupD (mCons (mC (.int 3)) (mCons (mC (.int 2)) (mCons (m1 negD (mC (.int 1))) mNil)))) (mCons (mL tupD (mCons (mC (.int 1)) (mCons (mC (.int 5)) (mCons (mC (.int 4)) mNil)))) mNil))) (mCons (mCall m_value_of 2 [] (mCons (mL tupD (mCons (mC (.int 0)) mNil)) (mCons (mL tupD (mCons (mC (.int 7)) mNil)) mNil))) (mCons (mCall m_added 2 [] (mCons (mL tupD (mCons (mC (.int 1)) (mCons (mC (.int 2)) mNil))) (mCons (mL tupD (mCons (m1 negD (mC (.int 1))) (mCons (m1 negD (mC (.int 2))) mNil))) mNil))) (mCons (mCall m_scaled 2 [] (mCons (mL tupD (mCons (mC (.int 0)) (mCons (m1 negD (mC (.int 3))) mNil))) (mCons (m1 negD (mC (.int 2))) mNil))) mNil))))))
  (xRet (m2 eqD (mVar 2) (mL lstD (mCons (mC (.int 9)) (mCons (mC (.int 0)) (mCons (mL tupD (mCons (mC (.int 0)) (mCons (mC (.int 0)) mNil))) (mCons (mL tupD (mCons (mC (.int 0)) (mCons (mC (.int 6)) mNil))) mNil)))))))))
noncomputable def m_law_k07 : List D → FR D := runF 5 b_law_k07
/-! is_row_within -/
noncomputable def e1_is_row_within : M D :=
  (mChain leD leD (m1 negD (mVar 2)) (mVar 3) (mVar 2))
noncomputable def q1_is_row_within : M (List D) :=
  mLc (mWalk (mVar 0)) [3] (.sl 3) tYesM e1_is_row_within
noncomputable def b_is_row_within : M Fl :=
  (xRet (mAnd (mCall m_is_row 1 [] (mCons (mVar 0) mNil)) (mAnd (m2 eqD (mL lenD (mCons (mVar 0) mNil)) (mVar 1)) (mL allD (mCons (mOfN q1_is_row_within) mNil)))))
noncomputable def m_is_row_within : List D → FR D := runF 4 b_is_row_within
/-! is_strand_of -/
noncomputable def e1_is_strand_of : M D :=
  (mCall m_is_row_within 3 [] (mCons (mVar 4) (mCons (mVar 1) (mCons (mC (.int c_MAX_SIZE)) mNil))))
noncomputable def q1_is_strand_of : M (List D) :=
  mLc (mWalk (mVar 3)) [4] (.sl 4) tYesM e1_is_strand_of
noncomputable def b_is_strand_of : M Fl :=
  (xSeq (xIf (tOr (tNot (tOf (mL isiD (mCons (mVar 0) (mCons (mC (.opq (.ty "tuple"))) mNil))))) (tOr (tOf (m2 neD (mL lenD (mCons (mVar 0) mNil)) (mC (.int 2)))) (tNot (tOf (mL isiD (mCons (m2 ixD (mVar 0) (mC (.int 0))) (mCons (mC (.opq (.ty "str"))) mNil))))))) (xRet (mC (.bl false))) xNx)
  (xSeq (xPut (.tp [(.sl 2), (.sl 3)]) (mVar 0))
  (xSeq (xIf (tOr (tOf (m2 ninD (mVar 2) (mL tupD (mCons (mC (.str c_MORE)) (mCons (mC (.str c_LEAST)) (mCons (mC (.str c_NULL)) mNil)))))) (tOr (tNot (tOf (mL isiD (mCons (mVar 3) (mCons (mC (.opq (.ty "tuple"))) mNil))))) (tNot (tOf (mChain leD leD (mC (.int 1)) (mL lenD (mCons (mVar 3) mNil)) (mC (.int c_MAX_ROWS))))))) (xRet (mC (.bl false))) xNx)
  (xRet (mL allD (mCons (mOfN q1_is_strand_of) mNil))))))
noncomputable def m_is_strand_of : List D → FR D := runF 5 b_is_strand_of
/-! are_strands -/
noncomputable def e1_are_strands : M D :=
  (mCall m_is_strand_of 2 [] (mCons (mVar 2) (mCons (mVar 1) mNil)))
noncomputable def q1_are_strands : M (List D) :=
  mLc (mWalk (mVar 0)) [2] (.sl 2) tYesM e1_are_strands
noncomputable def e2_are_strands : M D :=
  (mL allD (mCons (mOfN q1_are_strands) mNil))
noncomputable def q2_are_strands : M (List D) :=
  mLc (mItL range2D (mCons (mC (.int 1)) (mCons (m2 addD (mC (.int c_MAX_WIDTH)) (mC (.int 1))) mNil))) [1] (.sl 1) tYesM e2_are_strands
noncomputable def b_are_strands : M Fl :=
  (xSeq (xIf (tOr (tNot (tOf (mL isiD (mCons (mVar 0) (mCons (mC (.opq (.ty "tuple"))) mNil))))) (tNot (tOf (mChain leD leD (mC (.int 1)) (mL lenD (mCons (mVar 0) mNil)) (mC (.int c_MAX_STRANDS)))))) (xRet (mC (.bl false))) xNx)
  (xRet (mL anyD (mCons (mOfN q2_are_strands) mNil))))
noncomputable def m_are_strands : List D → FR D := runF 3 b_are_strands
/-! System.__init__ -/
noncomputable def b_System___init__ : M Fl :=
  (xSeq (xIf (tNot (tOf (mCall m_are_strands 1 [] (mCons (mVar 1) mNil)))) (xRaise (Str.ofString "InvalidSystem")) xNx)
  (xSeq (xFld 0 "System" "own_strands" (mVar 1))
  (xFld 0 "System" "own_width" (mL lenD (mCons (m2 ixD (m2 ixD (m2 ixD (mVar 1) (mC (.int 0))) (mC (.int 1))) (mC (.int 0))) mNil)))))
noncomputable def m_System___init__ : SV → List D → IR := runI 2 b_System___init__
/-! _law_pick -/
noncomputable def b__law_pick : M Fl :=
  (xRet (m2 ixD (mVar 1) (mIo m__law_bit 1 0 (mCons (mL lenD (mCons (mVar 1) mNil)) mNil))))
noncomputable def m__law_pick : SV → List D → IR := runI 2 b__law_pick
/-! _law_small -/
noncomputable def b__law_small : M Fl :=
  (xSeq (xPut (.sl 2) (mIo m__law_bit 1 0 (mCons (mC (.int 4)) mNil)))
  (xRet (mIf (tOf (m2 ltD (mVar 2) (mC (.int 2)))) (mVar 2) (m2 subD (mIo m__law_bit 1 0 (mCons (m2 addD (m2 mulD (mC (.int 2)) (mVar 1)) (mC (.int 1))) mNil)) (mVar 1)))))
noncomputable def m__law_small : SV → List D → IR := runI 3 b__law_small
/-! _law_line -/
noncomputable def e1__law_line : M D :=
  (mIo m__law_small 1 0 (mCons (mVar 2) mNil))
noncomputable def q1__law_line : M (List D) :=
  mLc (mItL range1D (mCons (mVar 1) mNil)) [3] (.sl 3) tYesM e1__law_line
noncomputable def b__law_line : M Fl :=
  (xRet (mL tupleD (mCons (mOfN q1__law_line) mNil)))
noncomputable def m__law_line : SV → List D → IR := runI 4 b__law_line
/-! _law_strand -/
noncomputable def y1__law_strand : M Fl :=
  (xDrop (mApp 5 (mIf (tOf (m2 gtD (mIo m__law_bit 1 0 (mCons (mC (.int 8)) mNil)) (mC (.int 0)))) (mIo m__law_line 2 0 (mCons (mVar 1) (mCons (mVar 2) mNil))) (m2 mulD (mL tupD (mCons (mC (.int 0)) mNil)) (mVar 1)))))
noncomputable def f1__law_strand : M Fl :=
  xFor (mItL range1D (mCons (m2 addD (mC (.int 1)) (mIo m__law_bit 1 0 (mCons (mVar 3) mNil))) mNil)) (.sl 6) y1__law_strand
noncomputable def b__law_strand : M Fl :=
  (xSeq (xPut (.sl 4) (mIo m__law_pick 1 0 (mCons (mL lstD (mCons (mC (.str (Str.ofString "more"))) (mCons (mC (.str (Str.ofString "more"))) (mCons (mC (.str (Str.ofString "least"))) (mCons (mC (.str (Str.ofString "least"))) (mCons (mC (.str (Str.ofString "null"))) mNil)))))) mNil)))
  (xSeq (xOwn 5 (mLstN mNil))
  (xSeq f1__law_strand
  (xRet (mL tupD (mCons (mVar 4) (mCons (mL tupleD (mCons (mVar 5) mNil)) mNil)))))))
noncomputable def m__law_strand : SV → List D → IR := runI 7 b__law_strand
/-! _law_dealt -/
noncomputable def e1__law_dealt : M D :=
  (mPopAt 2 (mIo m__law_bit 1 0 (mCons (mLenN 2) mNil)))
noncomputable def q1__law_dealt : M (List D) :=
  mLc (mItL range1D (mCons (mL lenD (mCons (mVar 1) mNil)) mNil)) [3] (.sl 3) tYesM e1__law_dealt
noncomputable def b__law_dealt : M Fl :=
  (xSeq (xOwn 2 (mListN (mCons (mVar 1) mNil)))
  (xRet (mOfN q1__law_dealt)))
noncomputable def m__law_dealt : SV → List D → IR := runI 4 b__law_dealt
/-! _law_pack -/
noncomputable def e1__law_pack : M D :=
  (mIo m__law_strand 3 0 (mCons (mVar 1) (mCons (mC (.int 2)) (mCons (mC (.int 3)) mNil))))
noncomputable def q1__law_pack : M (List D) :=
  mLc (mItL range1D (mCons (m2 addD (mC (.int 1)) (mIo m__law_bit 1 0 (mCons (mVar 2) mNil))) mNil)) [5] (.sl 5) tYesM e1__law_pack
noncomputable def e2__law_pack : M D :=
  (m2 subD (mC (.int 0)) (mVar 9))
noncomputable def q2__law_pack : M (List D) :=
  mLc (mWalk (mVar 8)) [9] (.sl 9) tYesM e2__law_pack
noncomputable def e3__law_pack : M D :=
  (mL tupleD (mCons (mOfN q2__law_pack) mNil))
noncomputable def q3__law_pack : M (List D) :=
  mLc (mWalk (mVar 7)) [8] (.sl 8) tYesM e3__law_pack
noncomputable def b__law_pack : M Fl :=
  (xSeq (xOwn 3 q1__law_pack)
  (xSeq (xIf (tOf (m2 eqD (mIo m__law_bit 1 0 (mCons (mC (.int 2)) mNil)) (mC (.int 0)))) (xSeq (xPut (.tp [(.sl 6), (.sl 7)]) (mPeek 3 (mIo m__law_pick 1 0 (mCons (mVar 3) mNil))))
  (xSeq (xPut (.sl 4) (mL tupleD (mCons (mOfN q3__law_pack) mNil)))
  (xDrop (mApp 3 (mL tupD (mCons (mIo m__law_pick 1 0 (mCons (mL lstD (mCons (mC (.str (Str.ofString "more"))) (mCons (mC (.str (Str.ofString "least"))) (mCons (mVar 6) mNil)))) mNil)) (mCons (mSlice (mVar 4) mONone (mOSome (m2 addD (mC (.int 1)) (mIo m__law_bit 1 0 (mCons (mL lenD (mCons (mVar 4) mNil)) mNil))))) mNil))))))) xNx)
  (xRet (mL tupleD (mCons (mIo m__law_dealt 1 0 (mCons (mVar 3) mNil)) mNil)))))
noncomputable def m__law_pack : SV → List D → IR := runI 10 b__law_pack
/-! _law_all_spots -/
noncomputable def e1__law_all_spots : M D :=
  (m2 addD (mVar 5) (mL tupD (mCons (m2 subD (mVar 6) (mVar 3)) mNil)))
noncomputable def q1__law_all_spots : M (List D) :=
  mLc (mItL range1D (mCons (m2 addD (m2 mulD (mC (.int 2)) (mVar 3)) (mC (.int 1))) mNil)) [6] (.sl 6) tYesM e1__law_all_spots
noncomputable def y1__law_all_spots : M Fl :=
  (xPut (.sl 4) (m2 addD (mVar 4) (mOfN q1__law_all_spots)))
noncomputable def f1__law_all_spots : M Fl :=
  xFor (mWalk (mVar 2)) (.sl 5) y1__law_all_spots
noncomputable def y2__law_all_spots : M Fl :=
  (xSeq (xPut (.sl 4) (mL lstD mNil))
  (xSeq f1__law_all_spots
  (xPut (.sl 2) (mVar 4))))
noncomputable def f2__law_all_spots : M Fl :=
  xFor (mItL range1D (mCons (mVar 0) mNil)) (.sl 1) y2__law_all_spots
noncomputable def b__law_all_spots : M Fl :=
  (xSeq (xPut (.tp [(.sl 2), (.sl 3)]) (mL tupD (mCons (mL lstD (mCons (mL tupD mNil) mNil)) (mCons (mIf (tOf (m2 ltD (mVar 0) (mC (.int 3)))) (mC (.int 2)) (mC (.int 1))) mNil))))
  (xSeq f2__law_all_spots
  (xRet (mVar 2))))
noncomputable def m__law_all_spots : List D → FR D := runF 7 b__law_all_spots
/-! first_sign -/
noncomputable def y1_first_sign : M Fl :=
  (xSeq (xPut (.sl 3) (mCall m_value_by 2 [] (mCons (mVar 2) (mCons (mVar 1) mNil))))
  (xIf (tOf (m2 neD (mVar 3) (mC (.int 0)))) (xRet (mIf (tOf (m2 gtD (mVar 3) (mC (.int 0)))) (mC (.int 1)) (m1 negD (mC (.int 1))))) xNx))
noncomputable def f1_first_sign : M Fl :=
  xFor (mWalk (mVar 0)) (.sl 2) y1_first_sign
noncomputable def b_first_sign : M Fl :=
  (xSeq f1_first_sign
  (xRet (mC (.int 0))))
noncomputable def m_first_sign : List D → FR D := runF 4 b_first_sign
/-! is_met -/
noncomputable def b_is_met : M Fl :=
  (xSeq (xPut (.tp [(.sl 3), (.sl 4)]) (mVar 0))
  (xSeq (xPut (.sl 2) (mCall m_first_sign 2 [] (mCons (mVar 4) (mCons (mVar 1) mNil))))
  (xSeq (xIf (tOf (m2 eqD (mVar 3) (mC (.str c_NULL)))) (xRet (m2 eqD (mVar 2) (mC (.int 0)))) xNx)
  (xRet (mOr (m2 eqD (mVar 2) (mC (.int 1))) (mAnd (m2 eqD (mVar 3) (mC (.str c_LEAST))) (m2 eqD (mVar 2) (mC (.int 0)))))))))
noncomputable def m_is_met : List D → FR D := runF 5 b_is_met
/-! meets -/
noncomputable def e1_meets : M D :=
  (mCall m_is_met 2 [] (mCons (mVar 2) (mCons (mVar 1) mNil)))
noncomputable def q1_meets : M (List D) :=
  mLc (mWalk (m1 (fldD ["System"] "own_strands") (mVar 0))) [2] (.sl 2) tYesM e1_meets
noncomputable def b_meets : M Fl :=
  (xSeq (xIf (tOr (tNot (tOf (mCall m_is_row 1 [] (mCons (mVar 1) mNil)))) (tOf (m2 neD (mL lenD (mCons (mVar 1) mNil)) (m1 (fldD ["System"] "own_width") (mVar 0))))) (xRet (mC (.bl false))) xNx)
  (xRet (mL allD (mCons (mOfN q1_meets) mNil))))
noncomputable def m_meets : List D → FR D := runF 3 b_meets
/-! System.__contains__ -/
noncomputable def b_System___contains__ : M Fl :=
  (xRet (mCall m_meets 2 [] (mCons (mVar 0) (mCons (mVar 1) mNil))))
noncomputable def m_System___contains__ : List D → FR D := runF 2 b_System___contains__
/-! _law_is_calm -/
noncomputable def e1__law_is_calm : M D :=
  (mVar 4)
noncomputable def q1__law_is_calm : M (List D) :=
  mLc (mWalk (m2 ixD (mVar 3) (mC (.int 1)))) [4] (.sl 4) (tOf (m2 neD (mCall m__law_amount 2 [] (mCons (mVar 4) (mCons (mVar 1) mNil))) (mC (.int 0)))) e1__law_is_calm
noncomputable def y1__law_is_calm : M Fl :=
  (xPut (.sl 2) (m2 addD (mVar 2) (mOfN q1__law_is_calm)))
noncomputable def f1__law_is_calm : M Fl :=
  xFor (mWalk (mVar 0)) (.sl 3) y1__law_is_calm
noncomputable def b__law_is_calm : M Fl :=
  (xSeq (xPut (.sl 2) (mL lstD mNil))
  (xSeq f1__law_is_calm
  (xRet (m2 eqD (mVar 2) (mL lstD mNil)))))
noncomputable def m__law_is_calm : List D → FR D := runF 5 b__law_is_calm
/-! _law_sum -/
noncomputable def e1__law_sum : M D :=
  (m2 addD (mVar 3) (m2 mulD (mVar 2) (mVar 4)))
noncomputable def q1__law_sum : M (List D) :=
  mLc (mItL zipMD (mCons (mVar 0) (mCons (mVar 1) mNil))) [3, 4] (.tp [(.sl 3), (.sl 4)]) tYesM e1__law_sum
noncomputable def b__law_sum : M Fl :=
  (xRet (mL tupleD (mCons (mOfN q1__law_sum) mNil)))
noncomputable def m__law_sum : List D → FR D := runF 5 b__law_sum
/-! _law_right -/
noncomputable def e1__law_right_k27 : M D :=
  (mVar 14)
noncomputable def q1__law_right_k27 : M (List D) :=
  mLc (mWalk (mVar 8)) [14] (.sl 14) (tOf (mCall m__law_is_calm 2 [] (mCons (mVar 5) (mCons (mVar 14) mNil)))) e1__law_right_k27
noncomputable def e2__law_right_k27 : M D :=
  (mVar 14)
noncomputable def q2__law_right_k27 : M (List D) :=
  mLc (mWalk (mVar 8)) [14] (.sl 14) (tOf (m2 (inO "System" m_System___contains__) (mVar 14) (mVar 7))) e2__law_right_k27
noncomputable def e3__law_right_k27 : M D :=
  (mVar 11)
noncomputable def q3__law_right_k27 : M (List D) :=
  mLc (mWalk (mVar 9)) [11] (.sl 11) (tOf (m2 (ninO "System" m_System___contains__) (mCall m__law_sum 3 [] (mCons (mVar 2) (mCons (mVar 11) (mCons (m2 addD (mC (.int 1)) (mIo m__law_bit 1 0 (mCons (mC (.int 9)) mNil))) mNil)))) (mVar 7))) e3__law_right_k27
noncomputable def y1__law_right_k27 : M Fl :=
  (xIf (tOr (tOf (m2 (ninO "System" m_System___contains__) (mCall m__law_sum 3 [] (mCons (mVar 2) (mCons (mVar 11) (mCons (mC (.int 5)) mNil)))) (mVar 7))) (tOf (m2 (ninO "System" m_System___contains__) (mCall m__law_sum 3 [] (mCons (mVar 2) (mCons (mVar 11) (mCons (m2 subD (mC (.int 0)) (mC (.int 3))) mNil)))) (mVar 7)))) (xRet (mC (.bl false))) xNx)
noncomputable def f1__law_right_k27 : M Fl :=
  xFor (mWalk (mVar 10)) (.sl 11) y1__law_right_k27
noncomputable def y2__law_right_k27 : M Fl :=
  (xSeq (xIf (tOf (m2 neD (mOfN q3__law_right_k27) (mL lstD mNil))) (xRet (mC (.bl false))) xNx)
  f1__law_right_k27)
noncomputable def f2__law_right_k27 : M Fl :=
  xFor (mWalk (mSlice (mVar 9) mONone (mOSome (mC (.int 12))))) (.sl 2) y2__law_right_k27
noncomputable def e4__law_right_k27 : M D :=
  (mVar 14)
noncomputable def q4__law_right_k27 : M (List D) :=
  mLc (mWalk (mVar 9)) [14] (.sl 14) (tOf (m2 (inO "System" m_System___contains__) (mVar 14) (mVar 3))) e4__law_right_k27
noncomputable def e5__law_right_k27 : M D :=
  (mVar 14)
noncomputable def q5__law_right_k27 : M (List D) :=
  mLc (mWalk (mVar 8)) [14] (.sl 14) (tOf (m2 (inO "System" m_System___contains__) (mVar 14) (mVar 12))) e5__law_right_k27
noncomputable def e6__law_right_k27 : M D :=
  (mVar 14)
noncomputable def q6__law_right_k27 : M (List D) :=
  mLc (mWalk (mVar 8)) [14] (.sl 14) (tOf (m2 (inO "System" m_System___contains__) (mVar 14) (mVar 13))) e6__law_right_k27
noncomputable def b__law_right_k27 : M Fl :=
  (xSeq (xPut (.sl 1) (m2 addD (mC (.int 1)) (mIo m__law_bit 1 0 (mCons (mC (.int 3)) mNil))))
  (xSeq (xPut (.tp [(.sl 5), (.sl 6)]) (mL tupD (mCons (mIo m__law_pack 2 0 (mCons (mVar 1) (mCons (mC (.int 5)) mNil))) (mCons (mIo m__law_pack 2 0 (mCons (mVar 1) (mCons (mC (.int 4)) mNil))) mNil))))
  (xSeq (xPut (.tp [(.sl 7), (.sl 8)]) (mL tupD (mCons (mMake "System" m_System___init__ 1 [] (mCons (mVar 5) mNil)) (mCons (mCall m__law_all_spots 1 [] (mCons (mVar 1) mNil)) mNil))))
  (xSeq (xPar 9 10 (mCons (mOfN q2__law_right_k27) (mCons (mOfN q1__law_right_k27) mNil)))
  (xSeq f2__law_right_k27
  (xSeq (xPut (.tp [(.sl 12), (.sl 13)]) (mL tupD (mCons (mMake "System" m_System___init__ 1 [] (mCons (m2 addD (mVar 5) (mVar 6)) mNil)) (mCons (mMake "System" m_System___init__ 1 [] (mCons (mL tupleD (mCons (mIo m__law_dealt 1 0 (mCons (m2 addD (m2 addD (mVar 5) (mSlice (mVar 6) mONone (mOSome (mC (.int 1))))) (mVar 6)) mNil)) mNil)) mNil)) mNil))))
  (xSeq (xPut (.sl 3) (mMake "System" m_System___init__ 1 [] (mCons (mVar 6) mNil)))
  (xSeq (xPut (.sl 4) (mOfN q4__law_right_k27))
  (xRet (mAnd (m2 eqD (mOfN q5__law_right_k27) (mVar 4)) (m2 eqD (mOfN q6__law_right_k27) (mVar 4))))))))))))
noncomputable def m__law_right_k27 : SV → List D → IR := runI 15 b__law_right_k27
/-! law -/
noncomputable def y1_law_k27 : M Fl :=
  (xIf (tNot (tOf (mIo m__law_right_k27 0 2 mNil))) (xRet (mC (.bl false))) xNx)
noncomputable def f1_law_k27 : M Fl :=
  xFor (mItL range1D (mCons (mC (.int 3)) mNil)) (.sl 3) y1_law_k27
noncomputable def y2_law_k27 : M Fl :=
  (xSeq (xOwn 2 (mCallN m__law_bowl 2 (mCons (mVar 0) (mCons (mVar 1) mNil))))
  f1_law_k27)
noncomputable def f2_law_k27 : M Fl :=
  xFor (mItL range1D (mCons (mL max2D (mCons (mC (.int 1)) (mCons (mL min2D (mCons (mC (.int 6)) (mCons (mL lenD (mCons (mVar 0) mNil)) mNil))) mNil))) mNil)) (.sl 1) y2_law_k27
noncomputable def b_law_k27 : M Fl :=
  (xSeq f2_law_k27
  (xRet (mC (.bl true))))
noncomputable def m_law_k27 : List D → FR D := runF 4 b_law_k27
/-! is_name -/
noncomputable def e1_is_name : M D :=
  (mChain leD leD (mC (.str (Str.ofString "a"))) (mVar 1) (mC (.str (Str.ofString "z"))))
noncomputable def q1_is_name : M (List D) :=
  mLc (mWalk (mVar 0)) [1] (.sl 1) tYesM e1_is_name
noncomputable def b_is_name : M Fl :=
  (xSeq (xIf (tOr (tNot (tOf (mL isiD (mCons (mVar 0) (mCons (mC (.opq (.ty "str"))) mNil))))) (tNot (tOf (mChain leD leD (mC (.int 1)) (mL lenD (mCons (mVar 0) mNil)) (mC (.int c_MAX_LETTERS)))))) (xRet (mC (.bl false))) xNx)
  (xRet (mL allD (mCons (mOfN q1_is_name) mNil))))
noncomputable def m_is_name : List D → FR D := runF 2 b_is_name
/-! is_names -/
noncomputable def e1_is_names : M D :=
  (mCall m_is_name 1 [] (mCons (mVar 1) mNil))
noncomputable def q1_is_names : M (List D) :=
  mLc (mWalk (mVar 0)) [1] (.sl 1) tYesM e1_is_names
noncomputable def b_is_names : M Fl :=
  (xSeq (xIf (tOr (tNot (tOf (mL isiD (mCons (mVar 0) (mCons (mC (.opq (.ty "tuple"))) mNil))))) (tNot (tOf (mChain leD leD (mC (.int 1)) (mL lenD (mCons (mVar 0) mNil)) (mC (.int c_MOST_NAMES)))))) (xRet (mC (.bl false))) xNx)
  (xRet (mAnd (mL allD (mCons (mOfN q1_is_names) mNil)) (m2 eqD (m1 lenSetD (mVar 0)) (mL lenD (mCons (mVar 0) mNil))))))
noncomputable def m_is_names : List D → FR D := runF 2 b_is_names
/-! is_form -/
noncomputable def e1_is_form : M D :=
  (mCall m_is_integer 1 [] (mCons (mVar 2) mNil))
noncomputable def q1_is_form : M (List D) :=
  mLc (mWalk (mVar 0)) [2] (.sl 2) tYesM e1_is_form
noncomputable def b_is_form : M Fl :=
  (xRet (mAnd (mL isiD (mCons (mVar 0) (mCons (mC (.opq (.ty "tuple"))) mNil))) (mAnd (m2 eqD (mL lenD (mCons (mVar 0) mNil)) (mVar 1)) (mL allD (mCons (mOfN q1_is_form) mNil)))))
noncomputable def m_is_form : List D → FR D := runF 3 b_is_form
/-! is_small_form -/
noncomputable def e1_is_small_form : M D :=
  (mChain leD leD (m1 negD (mVar 2)) (mVar 3) (mVar 2))
noncomputable def q1_is_small_form : M (List D) :=
  mLc (mWalk (mVar 0)) [3] (.sl 3) tYesM e1_is_small_form
noncomputable def b_is_small_form : M Fl :=
  (xRet (mAnd (mCall m_is_form 2 [] (mCons (mVar 0) (mCons (mVar 1) mNil))) (mL allD (mCons (mOfN q1_is_small_form) mNil))))
noncomputable def m_is_small_form : List D → FR D := runF 4 b_is_small_form
/-! is_step -/
noncomputable def e1_is_step : M D :=
  (m2 eqD (mVar 3) (mC (.int 0)))
noncomputable def q1_is_step : M (List D) :=
  mLc (mWalk (mSlice (mVar 0) (mOSome (m2 addD (mVar 2) (mC (.int 1)))) mONone)) [3] (.sl 3) tYesM e1_is_step
noncomputable def b_is_step : M Fl :=
  (xSeq (xIf (tOr (tNot (tOf (mCall m_is_small_form 3 [] (mCons (mVar 0) (mCons (mVar 1) (mCons (mC (.int c_MAX_STEP)) mNil)))))) (tNot (tOf (mChain leD leD (m1 negD (mC (.int c_MAX_MULTIPLIER))) (m2 ixD (mVar 0) (mVar 2)) (mC (.int c_MAX_MULTIPLIER)))))) (xRet (mC (.bl false))) xNx)
  (xRet (mL allD (mCons (mOfN q1_is_step) mNil))))
noncomputable def m_is_step : List D → FR D := runF 4 b_is_step
/-! are_steps -/
noncomputable def e1_are_steps : M D :=
  (mCall m_is_step 3 [] (mCons (mVar 3) (mCons (mVar 1) (mCons (m2 addD (mVar 2) (mC (.int 1))) mNil))))
noncomputable def q1_are_steps : M (List D) :=
  mLc (mItL enumD (mCons (mVar 0) mNil)) [2, 3] (.tp [(.sl 2), (.sl 3)]) tYesM e1_are_steps
noncomputable def b_are_steps : M Fl :=
  (xSeq (xIf (tOr (tNot (tOf (mL isiD (mCons (mVar 0) (mCons (mC (.opq (.ty "tuple"))) mNil))))) (tOf (m2 neD (mL lenD (mCons (mVar 0) mNil)) (m2 subD (mVar 1) (mC (.int 1)))))) (xRet (mC (.bl false))) xNx)
  (xRet (mL allD (mCons (mOfN q1_are_steps) mNil))))
noncomputable def m_are_steps : List D → FR D := runF 4 b_are_steps
/-! is_sign -/
noncomputable def b_is_sign : M Fl :=
  (xRet (mAnd (mL isiD (mCons (mVar 0) (mCons (mC (.opq (.ty "str"))) mNil))) (m2 inD (mVar 0) (mC (.tup c_SIGNS)))))
noncomputable def m_is_sign : List D → FR D := runF 1 b_is_sign
/-! is_test -/
noncomputable def b_is_test : M Fl :=
  (xSeq (xIf (tOr (tNot (tOf (mL isiD (mCons (mVar 0) (mCons (mC (.opq (.ty "tuple"))) mNil))))) (tOf (m2 neD (mL lenD (mCons (mVar 0) mNil)) (mC (.int 2))))) (xRet (mC (.bl false))) xNx)
  (xRet (mAnd (mCall m_is_sign 1 [] (mCons (m2 ixD (mVar 0) (mC (.int 0))) mNil)) (mCall m_is_small_form 3 [] (mCons (m2 ixD (mVar 0) (mC (.int 1))) (mCons (mVar 1) (mCons (mC (.int c_MAX_TEST_NUMBER)) mNil)))))))
noncomputable def m_is_test : List D → FR D := runF 2 b_is_test
/-! are_tests -/
noncomputable def e1_are_tests : M D :=
  (mCall m_is_test 2 [] (mCons (mVar 2) (mCons (mVar 1) mNil)))
noncomputable def q1_are_tests : M (List D) :=
  mLc (mWalk (mVar 0)) [2] (.sl 2) tYesM e1_are_tests
noncomputable def b_are_tests : M Fl :=
  (xSeq (xIf (tOr (tNot (tOf (mL isiD (mCons (mVar 0) (mCons (mC (.opq (.ty "tuple"))) mNil))))) (tNot (tOf (mChain leD leD (mC (.int 1)) (mL lenD (mCons (mVar 0) mNil)) (mC (.int c_MAX_TESTS)))))) (xRet (mC (.bl false))) xNx)
  (xRet (mL allD (mCons (mOfN q1_are_tests) mNil))))
noncomputable def m_are_tests : List D → FR D := runF 3 b_are_tests
/-! Loop.__init__ -/
noncomputable def d1_Loop___init__ : M D :=
  mDc (mItL zipMD (mCons (mVar 1) (mCons (mVar 2) mNil))) [4, 5] (.tp [(.sl 4), (.sl 5)]) tYesM (mVar 4) (mVar 5)
noncomputable def e1_Loop___init__ : M D :=
  (mC (.int 0))
noncomputable def q1_Loop___init__ : M (List D) :=
  mLc (mWalk (mVar 1)) [4] (.sl 4) tYesM e1_Loop___init__
noncomputable def b_Loop___init__ : M Fl :=
  (xSeq (xIf (tNot (tOf (mCall m_is_names 1 [] (mCons (mVar 1) mNil)))) (xRaise (Str.ofString "InvalidName")) xNx)
  (xSeq (xIf (tOr (tNot (tOf (mCall m_are_steps 2 [] (mCons (mVar 2) (mCons (m2 addD (mL lenD (mCons (mVar 1) mNil)) (mC (.int 1))) mNil))))) (tNot (tOf (mCall m_are_tests 2 [] (mCons (mVar 3) (mCons (m2 addD (mL lenD (mCons (mVar 1) mNil)) (mC (.int 1))) mNil)))))) (xRaise (Str.ofString "InvalidLoop")) xNx)
  (xSeq (xFld 0 "Loop" "own_names" (mVar 1))
  (xSeq (xFld 0 "Loop" "own_steps" (mVar 2))
  (xSeq (xFld 0 "Loop" "own_by_name" d1_Loop___init__)
  (xSeq (xFld 0 "Loop" "own_tests" (mVar 3))
  (xSeq (xFld 0 "Loop" "own_width" (m2 addD (mL lenD (mCons (mVar 1) mNil)) (mC (.int 1))))
  (xFld 0 "Loop" "own_matrix" (mL tupD (mCons (mL tupD (mCons (mC (.int 1)) (mStar (mOfN q1_Loop___init__) mNil))) (mStar (mVar 2) mNil)))))))))))
noncomputable def m_Loop___init__ : SV → List D → IR := runI 6 b_Loop___init__
/-! require_loop -/
noncomputable def b_require_loop : M Fl :=
  (xIf (tNot (tOf (m1 (isiOD (Str.ofString "Loop")) (mVar 0)))) (xRaise (Str.ofString "InvalidLoop")) xNx)
noncomputable def m_require_loop : List D → FR D := runF 1 b_require_loop
/-! is_start_of -/
noncomputable def b_is_start_of : M Fl :=
  (xRet (mAnd (mCall m_is_form 2 [] (mCons (mVar 1) (mCons (m1 (fldD ["Loop"] "own_width") (mVar 0)) mNil))) (m2 geD (m2 ixD (mVar 1) (mC (.int 0))) (mC (.int 1)))))
noncomputable def m_is_start_of : List D → FR D := runF 2 b_is_start_of
/-! require_start -/
noncomputable def b_require_start : M Fl :=
  (xIf (tNot (tOf (mCall m_is_start_of 2 [] (mCons (mVar 0) (mCons (mVar 1) mNil))))) (xRaise (Str.ofString "InvalidStart")) xNx)
noncomputable def m_require_start : List D → FR D := runF 2 b_require_start
/-! value_at -/
noncomputable def e1_value_at : M D :=
  (m2 mulD (mVar 2) (mVar 3))
noncomputable def q1_value_at : M (List D) :=
  mLc (mItL zipMD (mCons (mVar 0) (mCons (mVar 1) mNil))) [2, 3] (.tp [(.sl 2), (.sl 3)]) tYesM e1_value_at
noncomputable def b_value_at : M Fl :=
  (xRet (mL sumD (mCons (mOfN q1_value_at) mNil)))
noncomputable def m_value_at : List D → FR D := runF 4 b_value_at
/-! led_by -/
noncomputable def e1_led_by : M D :=
  (mCall m_value_at 2 [] (mCons (mVar 2) (mCons (mVar 1) mNil)))
noncomputable def q1_led_by : M (List D) :=
  mLc (mWalk (m1 (fldD ["Loop"] "own_matrix") (mVar 0))) [2] (.sl 2) tYesM e1_led_by
noncomputable def b_led_by : M Fl :=
  (xRet (mL tupleD (mCons (mOfN q1_led_by) mNil)))
noncomputable def m_led_by : List D → FR D := runF 3 b_led_by
/-! led -/
noncomputable def b_led : M Fl :=
  (xSeq (xDrop (mCall m_require_loop 1 [] (mCons (mVar 0) mNil)))
  (xSeq (xDrop (mCall m_require_start 2 [] (mCons (mVar 0) (mCons (mVar 1) mNil))))
  (xRet (mCall m_led_by 2 [] (mCons (mVar 0) (mCons (mVar 1) mNil))))))
noncomputable def m_led : List D → FR D := runF 2 b_led
/-! _law_wide_loop -/
noncomputable def y1__law_wide_loop : M Fl :=
  (xSeq (xPut (.sl 7) (mIo m__law_pick 1 0 (mCons (mL lstD (mCons (mC (.int 0)) (mCons (mC (.int 1)) (mCons (m1 negD (mC (.int 1))) (mCons (mC (.int 9)) (mCons (m1 negD (mC (.int 9))) (mCons (mC (.int 3)) mNil))))))) mNil)))
  (xDrop (mApp 5 (m2 addD (m2 addD (mIo m__law_line 2 0 (mCons (m2 addD (mVar 2) (mC (.int 1))) (mCons (mC (.int 20)) mNil))) (mL tupD (mCons (mVar 7) mNil))) (m2 mulD (mL tupD (mCons (mC (.int 0)) mNil)) (m2 subD (m2 subD (mVar 4) (mVar 2)) (mC (.int 1))))))))
noncomputable def f1__law_wide_loop : M Fl :=
  xFor (mItL range1D (mCons (mVar 4) mNil)) (.sl 2) y1__law_wide_loop
noncomputable def y2__law_wide_loop : M Fl :=
  (xDrop (mApp 6 (mL tupD (mCons (mIo m__law_pick 1 0 (mCons (mL lstD (mCons (mC (.str (Str.ofString "more"))) (mCons (mC (.str (Str.ofString "least"))) mNil))) mNil)) (mCons (mIo m__law_line 2 0 (mCons (m2 addD (mVar 4) (mC (.int 1))) (mCons (mC (.int 99)) mNil))) mNil)))))
noncomputable def f2__law_wide_loop : M Fl :=
  xFor (mItL range1D (mCons (m2 addD (mC (.int 1)) (mIo m__law_bit 1 0 (mCons (mC (.int 4)) mNil))) mNil)) (.sl 3) y2__law_wide_loop
noncomputable def b__law_wide_loop : M Fl :=
  (xSeq (xPut (.sl 1) (mL tupleD (mCons (mSlice (mIo m__law_dealt 1 0 (mCons (mL lstD (mCons (mC (.str (Str.ofString "x"))) (mCons (mC (.str (Str.ofString "y"))) (mCons (mC (.str (Str.ofString "a"))) (mCons (mC (.str (Str.ofString "total"))) (mCons (mC (.str (Str.ofString "zzzzzzzz"))) (mCons (mC (.str (Str.ofString "n"))) mNil))))))) mNil)) mONone (mOSome (m2 addD (mC (.int 1)) (mIo m__law_bit 1 0 (mCons (mC (.int 3)) mNil))))) mNil)))
  (xSeq (xParM [4, 5, 6] (mMV (mL lenD (mCons (mVar 1) mNil)) (mMN (mLstN mNil) (mMN (mLstN mNil) mMNil))))
  (xSeq f1__law_wide_loop
  (xSeq f2__law_wide_loop
  (xRet (mDict [.inr (Str.ofString "words"), .inr (Str.ofString "moves"), .inr (Str.ofString "checks")] (mCons (mVar 1) (mCons (mL tupleD (mCons (mVar 5) mNil)) (mCons (mL tupleD (mCons (mVar 6) mNil)) mNil)))))))))
noncomputable def m__law_wide_loop : SV → List D → IR := runI 8 b__law_wide_loop
/-! _law_made_loop -/
noncomputable def b__law_made_loop : M Fl :=
  (xRet (mMake "Loop" m_Loop___init__ 3 [] (mCons (m2 dgetD (mVar 0) (mC (.str (Str.ofString "words")))) (mCons (m2 dgetD (mVar 0) (mC (.str (Str.ofString "moves")))) (mCons (m2 dgetD (mVar 0) (mC (.str (Str.ofString "checks")))) mNil)))))
noncomputable def m__law_made_loop : List D → FR D := runF 1 b__law_made_loop
/-! _law_wide_start -/
noncomputable def e1__law_wide_start : M D :=
  (m2 subD (mIo m__law_bit 1 0 (mCons (m2 addD (m2 mulD (mC (.int 2)) (mVar 2)) (mC (.int 1))) mNil)) (mVar 2))
noncomputable def q1__law_wide_start : M (List D) :=
  mLc (mItL range1D (mCons (mVar 1) mNil)) [3] (.sl 3) tYesM e1__law_wide_start
noncomputable def b__law_wide_start : M Fl :=
  (xSeq (xPut (.sl 2) (mIo m__law_pick 1 0 (mCons (mL lstD (mCons (mC (.int 3)) (mCons (mC (.int 40)) (mCons (m2 powD (mC (.int 10)) (mC (.int 20))) (mCons (m2 powD (mC (.int 10)) (mC (.int 50))) mNil))))) mNil)))
  (xRet (m2 addD (mL tupD (mCons (m2 addD (mC (.int 1)) (mIo m__law_bit 1 0 (mCons (mVar 2) mNil))) mNil)) (mL tupleD (mCons (mOfN q1__law_wide_start) mNil)))))
noncomputable def m__law_wide_start : SV → List D → IR := runI 4 b__law_wide_start
/-! _law_form -/
noncomputable def b__law_form : M Fl :=
  (xSeq (xPut (.sl 2) (mIo m__law_pick 1 0 (mCons (mL lstD (mCons (mC (.int 2)) (mCons (mC (.int 5)) (mCons (mC (.int 99)) (mCons (m2 powD (mC (.int 10)) (mC (.int 30))) mNil))))) mNil)))
  (xRet (mIo m__law_line 2 0 (mCons (m2 addD (mVar 1) (mC (.int 1))) (mCons (mVar 2) mNil)))))
noncomputable def m__law_form : SV → List D → IR := runI 3 b__law_form
/-! _law_behind -/
noncomputable def e1__law_behind : M D :=
  (m2 addD (mVar 5) (m2 mulD (mVar 3) (mVar 6)))
noncomputable def q1__law_behind : M (List D) :=
  mLc (mItL zipMD (mCons (mVar 2) (mCons (mVar 4) mNil))) [5, 6] (.tp [(.sl 5), (.sl 6)]) tYesM e1__law_behind
noncomputable def y1__law_behind : M Fl :=
  (xPut (.sl 2) (mOfN q1__law_behind))
noncomputable def f1__law_behind : M Fl :=
  xFor (mItL zipMD (mCons (mSlice (mVar 1) (mOSome (mC (.int 1))) mONone) (mCons (m2 dgetD (mVar 0) (mC (.str (Str.ofString "moves")))) mNil))) (.tp [(.sl 3), (.sl 4)]) y1__law_behind
noncomputable def b__law_behind : M Fl :=
  (xSeq (xPut (.sl 2) (m2 addD (mL lstD (mCons (m2 ixD (mVar 1) (mC (.int 0))) mNil)) (m2 mulD (mL lstD (mCons (mC (.int 0)) mNil)) (mL lenD (mCons (m2 dgetD (mVar 0) (mC (.str (Str.ofString "moves")))) mNil)))))
  (xSeq f1__law_behind
  (xRet (mL tupleD (mCons (mVar 2) mNil)))))
noncomputable def m__law_behind : List D → FR D := runF 7 b__law_behind
/-! _law_next -/
noncomputable def e1__law_next : M D :=
  (mCall m__law_amount 2 [] (mCons (mVar 2) (mCons (mVar 1) mNil)))
noncomputable def q1__law_next : M (List D) :=
  mLc (mWalk (m2 dgetD (mVar 0) (mC (.str (Str.ofString "moves"))))) [2] (.sl 2) tYesM e1__law_next
noncomputable def b__law_next : M Fl :=
  (xRet (m2 addD (mL tupD (mCons (m2 ixD (mVar 1) (mC (.int 0))) mNil)) (mL tupleD (mCons (mOfN q1__law_next) mNil))))
noncomputable def m__law_next : List D → FR D := runF 3 b__law_next
/-! Loop.matrix -/
noncomputable def b_Loop_matrix : M Fl :=
  (xRet (m1 (fldD ["Loop"] "own_matrix") (mVar 0)))
noncomputable def m_Loop_matrix : List D → FR D := runF 1 b_Loop_matrix
/-! _law_right -/
noncomputable def e1__law_right_k12 : M D :=
  (mIo m__law_wide_start 1 0 (mCons (mVar 4) mNil))
noncomputable def q1__law_right_k12 : M (List D) :=
  mLc (mItL range1D (mCons (mC (.int 6)) mNil)) [8] (.sl 8) tYesM e1__law_right_k12
noncomputable def e2__law_right_k12 : M D :=
  (mCall m__law_amount 2 [] (mCons (mVar 12) (mCons (mVar 5) mNil)))
noncomputable def q2__law_right_k12 : M (List D) :=
  mLc (mWalk (m1 (clsD [(Str.ofString "Loop", m_Loop_matrix)]) (mVar 3))) [12] (.sl 12) tYesM e2__law_right_k12
noncomputable def e3__law_right_k12 : M D :=
  (m2 addD (mVar 13) (mVar 14))
noncomputable def q3__law_right_k12 : M (List D) :=
  mLc (mItL zipMD (mCons (mVar 5) (mCons (mVar 6) mNil))) [13, 14] (.tp [(.sl 13), (.sl 14)]) tYesM e3__law_right_k12
noncomputable def e4__law_right_k12 : M D :=
  (m2 addD (mVar 13) (mVar 14))
noncomputable def q4__law_right_k12 : M (List D) :=
  mLc (mItL zipMD (mCons (mVar 9) (mCons (mCall m_led 2 [] (mCons (mVar 3) (mCons (mVar 6) mNil))) mNil))) [13, 14] (.tp [(.sl 13), (.sl 14)]) tYesM e4__law_right_k12
noncomputable def e5__law_right_k12 : M D :=
  (m2 mulD (mVar 11) (mVar 15))
noncomputable def q5__law_right_k12 : M (List D) :=
  mLc (mWalk (mVar 5)) [15] (.sl 15) tYesM e5__law_right_k12
noncomputable def e6__law_right_k12 : M D :=
  (m2 mulD (mVar 11) (mVar 15))
noncomputable def q6__law_right_k12 : M (List D) :=
  mLc (mWalk (mVar 9)) [15] (.sl 15) tYesM e6__law_right_k12
noncomputable def y1__law_right_k12 : M Fl :=
  (xSeq (xPut (.tp [(.sl 9), (.sl 10), (.sl 11)]) (mL tupD (mCons (mCall m_led 2 [] (mCons (mVar 3) (mCons (mVar 5) mNil))) (mCons (mIo m__law_form 1 0 (mCons (mVar 4) mNil)) (mCons (m2 addD (mC (.int 1)) (mIo m__law_bit 1 0 (mCons (mC (.int 9)) mNil))) mNil)))))
  (xSeq (xIf (tOr (tOf (m2 neD (mL reprD (mCons (mVar 9) mNil)) (mL reprD (mCons (mCall m__law_next 2 [] (mCons (mVar 1) (mCons (mVar 5) mNil))) mNil)))) (tOf (m2 neD (m2 ixD (mVar 9) (mC (.int 0))) (m2 ixD (mVar 5) (mC (.int 0)))))) (xRet (mC (.bl false))) xNx)
  (xSeq (xIf (tOf (m2 neD (mVar 9) (mL tupleD (mCons (mOfN q2__law_right_k12) mNil)))) (xRet (mC (.bl false))) xNx)
  (xSeq (xPut (.sl 7) (mL tupleD (mCons (mOfN q3__law_right_k12) mNil)))
  (xSeq (xIf (tOf (m2 neD (mCall m_led 2 [] (mCons (mVar 3) (mCons (mVar 7) mNil))) (mL tupleD (mCons (mOfN q4__law_right_k12) mNil)))) (xRet (mC (.bl false))) xNx)
  (xSeq (xIf (tOf (m2 neD (mCall m_led 2 [] (mCons (mVar 3) (mCons (mL tupleD (mCons (mOfN q5__law_right_k12) mNil)) mNil))) (mL tupleD (mCons (mOfN q6__law_right_k12) mNil)))) (xRet (mC (.bl false))) xNx)
  (xIf (tOf (m2 neD (mCall m_value_of 2 [] (mCons (mVar 10) (mCons (mVar 9) mNil))) (mCall m__law_amount 2 [] (mCons (mCall m__law_behind 2 [] (mCons (mVar 1) (mCons (mVar 10) mNil))) (mCons (mVar 5) mNil))))) (xRet (mC (.bl false))) xNx)))))))
noncomputable def f1__law_right_k12 : M Fl :=
  xFor (mItL zipMD (mCons (mSlice (mVar 2) mONone (mOSome (m1 negD (mC (.int 1))))) (mCons (mSlice (mVar 2) (mOSome (mC (.int 1))) mONone) mNil))) (.tp [(.sl 5), (.sl 6)]) y1__law_right_k12
noncomputable def b__law_right_k12 : M Fl :=
  (xSeq (xPut (.sl 1) (mIo m__law_wide_loop 0 0 mNil))
  (xSeq (xPut (.tp [(.sl 3), (.sl 4)]) (mL tupD (mCons (mCall m__law_made_loop 1 [] (mCons (mVar 1) mNil)) (mCons (mL lenD (mCons (m2 dgetD (mVar 1) (mC (.str (Str.ofString "words")))) mNil)) mNil))))
  (xSeq (xPut (.sl 2) (mOfN q1__law_right_k12))
  (xSeq f1__law_right_k12
  (xRet (mC (.bl true)))))))
noncomputable def m__law_right_k12 : SV → List D → IR := runI 16 b__law_right_k12
/-! law -/
noncomputable def y1_law_k12 : M Fl :=
  (xIf (tNot (tOf (mIoT m__law_right_k12 (mCallN m__law_bowl 2 (mCons (mVar 0) (mCons (mVar 1) mNil)))))) (xRet (mC (.bl false))) xNx)
noncomputable def f1_law_k12 : M Fl :=
  xFor (mItL range1D (mCons (mL max2D (mCons (mC (.int 1)) (mCons (mL min2D (mCons (mC (.int 5)) (mCons (mL lenD (mCons (mVar 0) mNil)) mNil))) mNil))) mNil)) (.sl 1) y1_law_k12
noncomputable def b_law_k12 : M Fl :=
  (xSeq f1_law_k12
  (xSeq (xPut (.sl 2) (mMake "Loop" m_Loop___init__ 3 [] (mCons (mL tupD (mCons (mC (.str (Str.ofString "y"))) (mCons (mC (.str (Str.ofString "x"))) mNil))) (mCons (mL tupD (mCons (mL tupD (mCons (m1 negD (mC (.int 1))) (mCons (mC (.int 1)) (mCons (mC (.int 0)) mNil)))) (mCons (mL tupD (mCons (mC (.int 3)) (mCons (mC (.int 2)) (mCons (m1 negD (mC (.int 4))) mNil)))) mNil))) (mCons (mL tupD (mCons (mL tupD (mCons (mC (.str (Str.ofString "more"))) (mCons (mL tupD (mCons (mC (.int 0)) (mCons (mC (.int 0)) (mCons (mC (.int 1)) mNil)))) mNil))) mNil)) mNil)))))
  (xSeq (xPut (.sl 3) (mL lstD (mCons (mCall m_led 2 [] (mCons (mVar 2) (mCons (mL tupD (mCons (mC (.int 1)) (mCons (mC (.int 0)) (mCons (mC (.int 0)) mNil)))) mNil))) (mCons (mCall m_led 2 [] (mCons (mVar 2) (mCons (mL tupD (mCons (mC (.int 2)) (mCons (mC (.int 5)) (mCons (m1 negD (mC (.int 1))) mNil)))) mNil))) (mCons (m2 eqD (m2 ixD (mCall m_led 2 [] (mCons (mVar 2) (mCons (mL tupD (mCons (m2 powD (mC (.int 10)) (mC (.int 60))) (mCons (mC (.int 1)) (mCons (mC (.int 1)) mNil)))) mNil))) (mC (.int 0))) (m2 powD (mC (.int 10)) (mC (.int 60)))) mNil)))))
  (xRet (m2 eqD (mVar 3) (mL lstD (mCons (mL tupD (mCons (mC (.int 1)) (mCons (m1 negD (mC (.int 1))) (mCons (mC (.int 3)) mNil)))) (mCons (mL tupD (mCons (mC (.int 2)) (mCons (mC (.int 3)) (mCons (mC (.int 20)) mNil)))) (mCons (mC (.bl true)) mNil)))))))))
noncomputable def m_law_k12 : List D → FR D := runF 4 b_law_k12
/-! does_hold -/
noncomputable def b_does_hold : M Fl :=
  (xRet (mIf (tOf (m2 eqD (mVar 0) (mC (.str c_MORE)))) (m2 gtD (mVar 1) (mC (.int 0))) (m2 geD (mVar 1) (mC (.int 0)))))
noncomputable def m_does_hold : List D → FR D := runF 2 b_does_hold
/-! failing_at -/
noncomputable def e1_failing_at : M D :=
  (mVar 3)
noncomputable def q1_failing_at : M (List D) :=
  mLc (mItL enumD (mCons (mVar 2) mNil)) [3, 4, 5] (.tp [(.sl 3), (.tp [(.sl 4), (.sl 5)])]) (tNot (tOf (mCall m_does_hold 2 [] (mCons (mVar 4) (mCons (mCall m_value_at 2 [] (mCons (mVar 5) (mCons (mVar 1) mNil))) mNil))))) e1_failing_at
noncomputable def b_failing_at : M Fl :=
  (xSeq (xPut (.sl 2) (m1 (fldD ["Loop"] "own_tests") (mVar 0)))
  (xRet (mOfN q1_failing_at)))
noncomputable def m_failing_at : List D → FR D := runF 6 b_failing_at
/-! failing -/
noncomputable def b_failing : M Fl :=
  (xSeq (xDrop (mCall m_require_loop 1 [] (mCons (mVar 0) mNil)))
  (xSeq (xDrop (mCall m_require_start 2 [] (mCons (mVar 0) (mCons (mVar 1) mNil))))
  (xRet (mL tupleD (mCons (mCall m_failing_at 2 [] (mCons (mVar 0) (mCons (mVar 1) mNil))) mNil)))))
noncomputable def m_failing : List D → FR D := runF 2 b_failing
/-! _law_words -/
noncomputable def b__law_words : M Fl :=
  (xRet (mL tupleD (mCons (mSlice (mIo m__law_dealt 1 0 (mCons (mL lstD (mCons (mC (.str (Str.ofString "x"))) (mCons (mC (.str (Str.ofString "y"))) (mCons (mC (.str (Str.ofString "z"))) (mCons (mC (.str (Str.ofString "a"))) (mCons (mC (.str (Str.ofString "total"))) (mCons (mC (.str (Str.ofString "zzzzzzzz"))) mNil))))))) mNil)) mONone (mOSome (mIo m__law_pick 1 0 (mCons (mL lstD (mCons (mC (.int 1)) (mCons (mC (.int 2)) (mCons (mC (.int 2)) (mCons (mVar 1) mNil))))) mNil)))) mNil)))
noncomputable def m__law_words : SV → List D → IR := runI 2 b__law_words
/-! _law_move -/
noncomputable def b__law_move : M Fl :=
  (xRet (m2 addD (m2 addD (mIo m__law_line 2 0 (mCons (m2 addD (mVar 2) (mC (.int 1))) (mCons (mC (.int 2)) mNil))) (mL tupD (mCons (mIo m__law_pick 1 0 (mCons (mVar 3) mNil)) mNil))) (m2 mulD (mL tupD (mCons (mC (.int 0)) mNil)) (m2 subD (m2 subD (mVar 1) (mVar 2)) (mC (.int 1))))))
noncomputable def m__law_move : SV → List D → IR := runI 4 b__law_move
/-! _law_check -/
noncomputable def e1__law_check : M D :=
  (mVar 3)
noncomputable def q1__law_check : M (List D) :=
  mLc (mWalk (mSlice (mVar 2) (mOSome (mC (.int 1))) mONone)) [3] (.sl 3) (tOf (m2 neD (mVar 3) (mC (.int 0)))) e1__law_check
noncomputable def b__law_check : M Fl :=
  (xSeq (xPut (.sl 2) (m2 addD (mIo m__law_line 2 0 (mCons (mC (.int 1)) (mCons (mC (.int 3)) mNil))) (mIo m__law_line 2 0 (mCons (mVar 1) (mCons (mC (.int 2)) mNil)))))
  (xSeq (xIf (tAnd (tOf (m2 eqD (mOfN q1__law_check) (mL lstD mNil))) (tOf (m2 gtD (mIo m__law_bit 1 0 (mCons (mC (.int 6)) mNil)) (mC (.int 0))))) (xPut (.sl 2) (m2 addD (mSlice (mVar 2) mONone (mOSome (m1 negD (mC (.int 1))))) (mL tupD (mCons (mIo m__law_pick 1 0 (mCons (mL lstD (mCons (mC (.int 1)) (mCons (m1 negD (mC (.int 1))) mNil))) mNil)) mNil)))) xNx)
  (xRet (mL tupD (mCons (mIo m__law_pick 1 0 (mCons (mL lstD (mCons (mC (.str (Str.ofString "more"))) (mCons (mC (.str (Str.ofString "more"))) (mCons (mC (.str (Str.ofString "least"))) mNil)))) mNil)) (mCons (mVar 2) mNil))))))
noncomputable def m__law_check : SV → List D → IR := runI 4 b__law_check
/-! _law_loop -/
noncomputable def e1__law_loop : M D :=
  (mIo m__law_move 3 0 (mCons (mVar 6) (mCons (mVar 8) (mCons (mVar 7) mNil))))
noncomputable def q1__law_loop : M (List D) :=
  mLc (mItL range1D (mCons (mVar 6) mNil)) [8] (.sl 8) tYesM e1__law_loop
noncomputable def e2__law_loop : M D :=
  (mIo m__law_check 1 0 (mCons (mVar 6) mNil))
noncomputable def q2__law_loop : M (List D) :=
  mLc (mItL range1D (mCons (m2 addD (mC (.int 1)) (mIo m__law_bit 1 0 (mCons (mVar 2) mNil))) mNil)) [9] (.sl 9) tYesM e2__law_loop
noncomputable def b__law_loop : M Fl :=
  (xSeq (xPut (.sl 3) (mIo m__law_words 1 0 (mCons (mVar 1) mNil)))
  (xSeq (xPut (.tp [(.sl 6), (.sl 7)]) (mL tupD (mCons (mL lenD (mCons (mVar 3) mNil)) (mCons (mIo m__law_pick 1 0 (mCons (mL lstD (mCons (mL lstD (mCons (mC (.int 1)) mNil)) (mCons (mL lstD (mCons (mC (.int 1)) (mCons (mC (.int 1)) (mCons (mC (.int 0)) mNil)))) (mCons (mL lstD (mCons (mC (.int 1)) (mCons (m1 negD (mC (.int 1))) (mCons (mC (.int 2)) mNil)))) (mCons (mL lstD (mCons (mC (.int 0)) (mCons (mC (.int 1)) (mCons (m1 negD (mC (.int 1))) (mCons (mC (.int 2)) (mCons (m1 negD (mC (.int 2))) (mCons (mC (.int 3)) (mCons (m1 negD (mC (.int 3))) mNil)))))))) (mCons (mL lstD (mCons (mC (.int 2)) (mCons (m1 negD (mC (.int 2))) (mCons (mC (.int 1)) mNil)))) mNil)))))) mNil)) mNil))))
  (xSeq (xPut (.sl 4) (mL tupleD (mCons (mOfN q1__law_loop) mNil)))
  (xSeq (xPut (.sl 5) (mL tupleD (mCons (mOfN q2__law_loop) mNil)))
  (xRet (mDict [.inr (Str.ofString "words"), .inr (Str.ofString "moves"), .inr (Str.ofString "checks")] (mCons (mVar 3) (mCons (mVar 4) (mCons (mVar 5) mNil)))))))))
noncomputable def m__law_loop : SV → List D → IR := runI 10 b__law_loop
/-! _law_start -/
noncomputable def e1__law_start : M D :=
  (m2 subD (mIo m__law_bit 1 0 (mCons (m2 addD (m2 mulD (mC (.int 2)) (mVar 2)) (mC (.int 1))) mNil)) (mVar 2))
noncomputable def q1__law_start : M (List D) :=
  mLc (mItL range1D (mCons (mVar 1) mNil)) [3] (.sl 3) tYesM e1__law_start
noncomputable def b__law_start : M Fl :=
  (xRet (m2 addD (mL tupD (mCons (mIo m__law_pick 1 0 (mCons (mL lstD (mCons (mC (.int 1)) (mCons (mC (.int 1)) (mCons (mC (.int 1)) (mCons (mC (.int 2)) (mCons (mC (.int 3)) mNil)))))) mNil)) mNil)) (mL tupleD (mCons (mOfN q1__law_start) mNil))))
noncomputable def m__law_start : SV → List D → IR := runI 4 b__law_start
/-! _law_zeroed -/
noncomputable def e1__law_zeroed : M D :=
  (m2 mulD (mVar 7) (mVar 5))
noncomputable def q1__law_zeroed : M (List D) :=
  mLc (mWalk (mSlice (mVar 2) mONone (mOSome (m1 negD (mC (.int 1)))))) [7] (.sl 7) tYesM e1__law_zeroed
noncomputable def b__law_zeroed : M Fl :=
  (xSeq (xPut (.sl 3) (m2 ixD (mIo m__law_pick 1 0 (mCons (m2 dgetD (mVar 1) (mC (.str (Str.ofString "checks")))) mNil)) (mC (.int 1))))
  (xSeq (xIf (tOf (m2 eqD (m2 ixD (mVar 3) (m1 negD (mC (.int 1)))) (mC (.int 0)))) (xRet (mVar 2)) xNx)
  (xSeq (xPut (.tp [(.sl 5), (.sl 6)]) (mL tupD (mCons (mL absD (mCons (m2 ixD (mVar 3) (m1 negD (mC (.int 1)))) mNil)) (mCons (mCall m__law_amount 2 [] (mCons (mSlice (mVar 3) mONone (mOSome (m1 negD (mC (.int 1))))) (mCons (mSlice (mVar 2) mONone (mOSome (m1 negD (mC (.int 1))))) mNil))) mNil))))
  (xSeq (xPut (.sl 4) (mIf (tOf (m2 gtD (m2 ixD (mVar 3) (m1 negD (mC (.int 1)))) (mC (.int 0)))) (mC (.int 1)) (m1 negD (mC (.int 1)))))
  (xRet (m2 addD (mL tupleD (mCons (mOfN q1__law_zeroed) mNil)) (mL tupD (mCons (m2 subD (mC (.int 0)) (m2 mulD (mVar 6) (mVar 4))) mNil))))))))
noncomputable def m__law_zeroed : SV → List D → IR := runI 8 b__law_zeroed
/-! holds -/
noncomputable def b_holds : M Fl :=
  (xRet (m2 eqD (mCall m_failing 2 [] (mCons (mVar 0) (mCons (mVar 1) mNil))) (mL tupD mNil)))
noncomputable def m_holds : List D → FR D := runF 2 b_holds
/-! _law_passes -/
noncomputable def y1__law_passes : M Fl :=
  (xSeq (xPut (.sl 4) (mCall m__law_amount 2 [] (mCons (mVar 3) (mCons (mVar 1) mNil))))
  (xIf (tOr (tOf (m2 ltD (mVar 4) (mC (.int 0)))) (tAnd (tOf (m2 eqD (mVar 4) (mC (.int 0)))) (tOf (m2 eqD (mVar 2) (mC (.str (Str.ofString "more"))))))) (xRet (mC (.bl false))) xNx))
noncomputable def f1__law_passes : M Fl :=
  xFor (mWalk (m2 dgetD (mVar 0) (mC (.str (Str.ofString "checks"))))) (.tp [(.sl 2), (.sl 3)]) y1__law_passes
noncomputable def b__law_passes : M Fl :=
  (xSeq f1__law_passes
  (xRet (mC (.bl true))))
noncomputable def m__law_passes : List D → FR D := runF 5 b__law_passes
/-! values -/
noncomputable def e1_values : M D :=
  (mCall m_value_at 2 [] (mCons (mVar 3) (mCons (mVar 1) mNil)))
noncomputable def q1_values : M (List D) :=
  mLc (mWalk (m1 (fldD ["Loop"] "own_tests") (mVar 0))) [2, 3] (.tp [(.sl 2), (.sl 3)]) tYesM e1_values
noncomputable def b_values : M Fl :=
  (xSeq (xDrop (mCall m_require_loop 1 [] (mCons (mVar 0) mNil)))
  (xSeq (xDrop (mCall m_require_start 2 [] (mCons (mVar 0) (mCons (mVar 1) mNil))))
  (xRet (mL tupleD (mCons (mOfN q1_values) mNil)))))
noncomputable def m_values : List D → FR D := runF 4 b_values
/-! greatest_common -/
noncomputable def y1_greatest_common : M Fl :=
  (xPar 3 4 (mCons (mVar 4) (mCons (m2 modD (mVar 3) (mVar 4)) mNil)))
noncomputable def w1_greatest_common : M Fl :=
  xWhile (tOf (m2 neD (mVar 4) (mC (.int 0)))) y1_greatest_common
noncomputable def y2_greatest_common : M Fl :=
  (xSeq (xPar 3 4 (mCons (mVar 1) (mCons (mL absD (mCons (mVar 2) mNil)) mNil)))
  (xSeq w1_greatest_common
  (xPut (.sl 1) (mVar 3))))
noncomputable def f1_greatest_common : M Fl :=
  xFor (mWalk (mVar 0)) (.sl 2) y2_greatest_common
noncomputable def b_greatest_common : M Fl :=
  (xSeq (xPut (.sl 1) (mC (.int 0)))
  (xSeq f1_greatest_common
  (xRet (mVar 1))))
noncomputable def m_greatest_common : List D → FR D := runF 5 b_greatest_common
/-! without_common -/
noncomputable def e1_without_common : M D :=
  (m2 divD (mVar 2) (mVar 1))
noncomputable def q1_without_common : M (List D) :=
  mLc (mWalk (mVar 0)) [2] (.sl 2) tYesM e1_without_common
noncomputable def b_without_common : M Fl :=
  (xSeq (xPut (.sl 1) (mCall m_greatest_common 1 [] (mCons (mVar 0) mNil)))
  (xRet (mIf (tOf (m2 gtD (mVar 1) (mC (.int 1)))) (mL tupleD (mCons (mOfN q1_without_common) mNil)) (mL tupleD (mCons (mVar 0) mNil)))))
noncomputable def m_without_common : List D → FR D := runF 3 b_without_common
/-! lowest_of -/
noncomputable def b_lowest_of : M Fl :=
  (xRet (mCall m_without_common 1 [] (mCons (mVar 0) mNil)))
noncomputable def m_lowest_of : List D → FR D := runF 1 b_lowest_of
/-! are_same -/
noncomputable def b_are_same : M Fl :=
  (xSeq (xDrop (mCall m_require_loop 1 [] (mCons (mVar 0) mNil)))
  (xSeq (xDrop (mCall m_require_start 2 [] (mCons (mVar 0) (mCons (mVar 1) mNil))))
  (xSeq (xDrop (mCall m_require_start 2 [] (mCons (mVar 0) (mCons (mVar 2) mNil))))
  (xRet (m2 eqD (mCall m_lowest_of 1 [] (mCons (mVar 1) mNil)) (mCall m_lowest_of 1 [] (mCons (mVar 2) mNil)))))))
noncomputable def m_are_same : List D → FR D := runF 3 b_are_same
/-! lowest -/
noncomputable def b_lowest : M Fl :=
  (xSeq (xDrop (mCall m_require_loop 1 [] (mCons (mVar 0) mNil)))
  (xSeq (xDrop (mCall m_require_start 2 [] (mCons (mVar 0) (mCons (mVar 1) mNil))))
  (xRet (mCall m_lowest_of 1 [] (mCons (mVar 1) mNil)))))
noncomputable def m_lowest : List D → FR D := runF 2 b_lowest
/-! _law_divisor -/
noncomputable def y1__law_divisor : M Fl :=
  (xPar 1 2 (mCons (mVar 2) (mCons (m2 modD (mL intD (mCons (mVar 1) mNil)) (mVar 2)) mNil)))
noncomputable def w1__law_divisor : M Fl :=
  xWhile (tOf (m2 neD (mVar 2) (mC (.int 0)))) y1__law_divisor
noncomputable def y2__law_divisor : M Fl :=
  (xSeq (xPut (.sl 2) (mL absD (mCons (mVar 2) mNil)))
  w1__law_divisor)
noncomputable def f1__law_divisor : M Fl :=
  xFor (mWalk (mVar 0)) (.sl 2) y2__law_divisor
noncomputable def b__law_divisor : M Fl :=
  (xSeq (xPut (.sl 1) (mC (.int 0)))
  (xSeq f1__law_divisor
  (xRet (mVar 1))))
noncomputable def m__law_divisor : List D → FR D := runF 3 b__law_divisor
/-! _law_short -/
noncomputable def e1__law_short : M D :=
  (m2 divD (mVar 2) (mVar 1))
noncomputable def q1__law_short : M (List D) :=
  mLc (mWalk (mVar 0)) [2] (.sl 2) tYesM e1__law_short
noncomputable def b__law_short : M Fl :=
  (xSeq (xPut (.sl 1) (mCall m__law_divisor 1 [] (mCons (mVar 0) mNil)))
  (xRet (mIf (tOf (m2 gtD (mVar 1) (mC (.int 1)))) (mL tupleD (mCons (mOfN q1__law_short) mNil)) (mL tupleD (mCons (mVar 0) mNil)))))
noncomputable def m__law_short : List D → FR D := runF 3 b__law_short
/-! _law_right -/
noncomputable def e1__law_right_k15 : M D :=
  (mCall m__law_amount 2 [] (mCons (mVar 13) (mCons (mVar 5) mNil)))
noncomputable def q1__law_right_k15 : M (List D) :=
  mLc (mWalk (m2 dgetD (mVar 1) (mC (.str (Str.ofString "checks"))))) [12, 13] (.tp [(.sl 12), (.sl 13)]) tYesM e1__law_right_k15
noncomputable def y1__law_right_k15 : M Fl :=
  (xIf (tOr (tOf (m2 ltD (m2 ixD (mVar 6) (mVar 10)) (mC (.int 0)))) (tAnd (tOf (m2 eqD (m2 ixD (mVar 6) (mVar 10)) (mC (.int 0)))) (tOf (m2 eqD (m2 ixD (mVar 11) (mC (.int 0))) (mC (.str (Str.ofString "more"))))))) (xDrop (mApp 7 (mVar 10))) xNx)
noncomputable def f1__law_right_k15 : M Fl :=
  xFor (mItL enumD (mCons (m2 dgetD (mVar 1) (mC (.str (Str.ofString "checks")))) mNil)) (.tp [(.sl 10), (.sl 11)]) y1__law_right_k15
noncomputable def e2__law_right_k15 : M D :=
  (m2 mulD (mVar 8) (mVar 14))
noncomputable def q2__law_right_k15 : M (List D) :=
  mLc (mWalk (mVar 5)) [14] (.sl 14) tYesM e2__law_right_k15
noncomputable def e3__law_right_k15 : M D :=
  (m2 mulD (mVar 8) (mVar 14))
noncomputable def q3__law_right_k15 : M (List D) :=
  mLc (mWalk (mVar 6)) [14] (.sl 14) tYesM e3__law_right_k15
noncomputable def y2__law_right_k15 : M Fl :=
  (xSeq (xPut (.sl 5) (mIo m__law_start 2 0 (mCons (mVar 4) (mCons (mIo m__law_pick 1 0 (mCons (mL lstD (mCons (mC (.int 3)) (mCons (mC (.int 9)) (mCons (m2 powD (mC (.int 10)) (mC (.int 40))) mNil)))) mNil)) mNil))))
  (xSeq (xPut (.sl 5) (mIf (tOf (m2 eqD (m2 modD (mVar 2) (mC (.int 2))) (mC (.int 1)))) (mIo m__law_zeroed 2 0 (mCons (mVar 1) (mCons (mVar 5) mNil))) (mVar 5)))
  (xSeq (xPut (.sl 6) (mOfN q1__law_right_k15))
  (xSeq (xOwn 7 (mLstN mNil))
  (xSeq f1__law_right_k15
  (xSeq (xIf (tOf (m2 neD (mL reprD (mCons (mL lstD (mCons (mCall m_values 2 [] (mCons (mVar 3) (mCons (mVar 5) mNil))) (mCons (mCall m_failing 2 [] (mCons (mVar 3) (mCons (mVar 5) mNil))) mNil))) mNil)) (mL reprD (mCons (mL lstD (mCons (mL tupleD (mCons (mVar 6) mNil)) (mCons (mL tupleD (mCons (mVar 7) mNil)) mNil))) mNil)))) (xRet (mC (.bl false))) xNx)
  (xSeq (xIf (tOr (tOf (m2 neD (mL reprD (mCons (mCall m_holds 2 [] (mCons (mVar 3) (mCons (mVar 5) mNil))) mNil)) (mL reprD (mCons (m2 eqD (mVar 7) (mL lstD mNil)) mNil)))) (tOf (m2 neD (mCall m_holds 2 [] (mCons (mVar 3) (mCons (mVar 5) mNil))) (mCall m__law_passes 2 [] (mCons (mVar 1) (mCons (mVar 5) mNil)))))) (xRet (mC (.bl false))) xNx)
  (xSeq (xPut (.sl 8) (m2 addD (mC (.int 2)) (mIo m__law_bit 1 0 (mCons (mC (.int 5)) mNil))))
  (xSeq (xPut (.sl 9) (mL tupleD (mCons (mOfN q2__law_right_k15) mNil)))
  (xSeq (xIf (tOr (tOf (m2 neD (mCall m_values 2 [] (mCons (mVar 3) (mCons (mVar 9) mNil))) (mL tupleD (mCons (mOfN q3__law_right_k15) mNil)))) (tOf (m2 neD (mCall m_failing 2 [] (mCons (mVar 3) (mCons (mVar 9) mNil))) (mL tupleD (mCons (mVar 7) mNil))))) (xRet (mC (.bl false))) xNx)
  (xIf (tOr (tNot (tOf (mCall m_are_same 3 [] (mCons (mVar 3) (mCons (mVar 9) (mCons (mVar 5) mNil)))))) (tOf (m2 neD (mCall m_lowest 2 [] (mCons (mVar 3) (mCons (mVar 9) mNil))) (mCall m__law_short 1 [] (mCons (mVar 5) mNil))))) (xRet (mC (.bl false))) xNx)))))))))))
noncomputable def f2__law_right_k15 : M Fl :=
  xFor (mItL range1D (mCons (mC (.int 8)) mNil)) (.sl 2) y2__law_right_k15
noncomputable def b__law_right_k15 : M Fl :=
  (xSeq (xPut (.sl 1) (mIo m__law_loop 2 0 (mCons (mC (.int 3)) (mCons (mC (.int 4)) mNil))))
  (xSeq (xPar 3 4 (mCons (mCall m__law_made_loop 1 [] (mCons (mVar 1) mNil)) (mCons (mL lenD (mCons (m2 dgetD (mVar 1) (mC (.str (Str.ofString "words")))) mNil)) mNil)))
  (xSeq f2__law_right_k15
  (xRet (mC (.bl true))))))
noncomputable def m__law_right_k15 : SV → List D → IR := runI 15 b__law_right_k15
/-! law -/
noncomputable def y1_law_k15 : M Fl :=
  (xIf (tNot (tOf (mIoT m__law_right_k15 (mCallN m__law_bowl 2 (mCons (mVar 0) (mCons (mVar 1) mNil)))))) (xRet (mC (.bl false))) xNx)
noncomputable def f1_law_k15 : M Fl :=
  xFor (mItL range1D (mCons (mL max2D (mCons (mC (.int 1)) (mCons (mL min2D (mCons (mC (.int 5)) (mCons (mL lenD (mCons (mVar 0) mNil)) mNil))) mNil))) mNil)) (.sl 1) y1_law_k15
noncomputable def e1_law_k15 : M D :=
  (mCall m_failing 2 [] (mCons (mVar 2) (mCons (mVar 4) mNil)))
noncomputable def q1_law_k15 : M (List D) :=
  mLc (mWalk (mL tupD (mCons (mL tupD (mCons (mC (.int 1)) (mCons (mC (.int 1)) mNil))) (mCons (mL tupD (mCons (mC (.int 2)) (mCons (mC (.int 1)) mNil))) (mCons (mL tupD (mCons (mC (.int 4)) (mCons (mC (.int 3)) mNil))) (mCons (mL tupD (mCons (mC (.int 1)) (mCons (mC (.int 2)) mNil))) (mCons (mL tupD (mCons (mC (.int 1)) (mCons (mC (.int 0)) mNil))) mNil))))))) [4] (.sl 4) tYesM e1_law_k15
noncomputable def b_law_k15 : M Fl :=
  (xSeq f1_law_k15
  (xSeq (xPut (.sl 2) (mMake "Loop" m_Loop___init__ 3 [] (mCons (mL tupD (mCons (mC (.str (Str.ofString "x"))) mNil)) (mCons (mL tupD (mCons (mL tupD (mCons (mC (.int 0)) (mCons (mC (.int 1)) mNil))) mNil)) (mCons (mL tupD (mCons (mL tupD (mCons (mC (.str (Str.ofString "more"))) (mCons (mL tupD (mCons (m1 negD (mC (.int 1))) (mCons (mC (.int 2)) mNil))) mNil))) (mCons (mL tupD (mCons (mC (.str (Str.ofString "least"))) (mCons (mL tupD (mCons (mC (.int 1)) (mCons (m1 negD (mC (.int 1))) mNil))) mNil))) (mCons (mL tupD (mCons (mC (.str (Str.ofString "least"))) (mCons (mL tupD (mCons (m1 negD (mC (.int 1))) (mCons (mC (.int 2)) mNil))) mNil))) mNil)))) mNil)))))
  (xSeq (xPut (.sl 3) (mOfN q1_law_k15))
  (xRet (mAnd (m2 eqD (mVar 3) (mL lstD (mCons (mL tupD mNil) (mCons (mL tupD (mCons (mC (.int 0)) mNil)) (mCons (mL tupD mNil) (mCons (mL tupD (mCons (mC (.int 1)) mNil)) (mCons (mL tupD (mCons (mC (.int 0)) (mCons (mC (.int 2)) mNil))) mNil))))))) (m2 eqD (mCall m_values 2 [] (mCons (mVar 2) (mCons (mL tupD (mCons (mC (.int 4)) (mCons (mC (.int 3)) mNil))) mNil))) (mL tupD (mCons (mC (.int 2)) (mCons (mC (.int 1)) (mCons (mC (.int 2)) mNil))))))))))
noncomputable def m_law_k15 : List D → FR D := runF 5 b_law_k15
/-! require_rounds -/
noncomputable def b_require_rounds : M Fl :=
  (xIf (tOr (tNot (tOf (mCall m_is_integer 1 [] (mCons (mVar 0) mNil)))) (tNot (tOf (mChain leD leD (mC (.int 0)) (mVar 0) (mC (.int c_MAX_ROUNDS)))))) (xRaiseX (Str.ofString "InvalidNumber") (mCons (mVar 0) mNil)) xNx)
noncomputable def m_require_rounds : List D → FR D := runF 1 b_require_rounds
/-! moments -/
noncomputable def y1_moments : M Fl :=
  (xDrop (mApp 3 (mCall m_led_by 2 [] (mCons (mVar 0) (mCons (mIxN 3 (m1 negD (mC (.int 1)))) mNil)))))
noncomputable def f1_moments : M Fl :=
  xFor (mItL range1D (mCons (mVar 2) mNil)) (.sl 4) y1_moments
noncomputable def b_moments : M Fl :=
  (xSeq (xDrop (mCall m_require_loop 1 [] (mCons (mVar 0) mNil)))
  (xSeq (xDrop (mCall m_require_start 2 [] (mCons (mVar 0) (mCons (mVar 1) mNil))))
  (xSeq (xDrop (mCall m_require_rounds 1 [] (mCons (mVar 2) mNil)))
  (xSeq (xOwn 3 (mLstN (mCons (mVar 1) mNil)))
  (xSeq f1_moments
  (xRet (mL tupleD (mCons (mVar 3) mNil))))))))
noncomputable def m_moments : List D → FR D := runF 5 b_moments
/-! leaves_within -/
noncomputable def y1_leaves_within : M Fl :=
  (xIf (tOf (m2 neD (mCall m_failing_at 2 [] (mCons (mVar 0) (mCons (mVar 4) mNil))) (mL lstD mNil))) (xRet (mVar 3)) xNx)
noncomputable def f1_leaves_within : M Fl :=
  xFor (mItL enumD (mCons (mCall m_moments 3 [] (mCons (mVar 0) (mCons (mVar 1) (mCons (mVar 2) mNil)))) mNil)) (.tp [(.sl 3), (.sl 4)]) y1_leaves_within
noncomputable def b_leaves_within : M Fl :=
  (xSeq f1_leaves_within
  (xRet (mC .non)))
noncomputable def m_leaves_within : List D → FR D := runF 5 b_leaves_within
/-! _law_run_to -/
noncomputable def y1__law_run_to : M Fl :=
  (xSeq (xIf (tNot (tOf (mCall m__law_passes 2 [] (mCons (mVar 0) (mCons (mVar 1) mNil))))) (xRet (mVar 3)) xNx)
  (xPut (.sl 1) (mCall m__law_next 2 [] (mCons (mVar 0) (mCons (mVar 1) mNil)))))
noncomputable def f1__law_run_to : M Fl :=
  xFor (mItL range1D (mCons (mVar 2) mNil)) (.sl 3) y1__law_run_to
noncomputable def b__law_run_to : M Fl :=
  (xSeq f1__law_run_to
  (xRet (mC .non)))
noncomputable def m__law_run_to : List D → FR D := runF 4 b__law_run_to
/-! _law_right -/
noncomputable def y1__law_right_k16 : M Fl :=
  (xSeq (xPar 8 9 (mCons (mIo m__law_start 2 0 (mCons (mVar 4) (mCons (mIo m__law_pick 1 0 (mCons (mL lstD (mCons (mC (.int 3)) (mCons (mC (.int 20)) (mCons (mC (.int 60)) mNil)))) mNil)) mNil))) (mCons (mIo m__law_bit 1 0 (mCons (mC (.int 41)) mNil)) mNil)))
  (xSeq (xPut (.sl 5) (mCall m__law_run_to 3 [] (mCons (mVar 1) (mCons (mVar 8) (mCons (m2 addD (mVar 9) (mC (.int 1))) mNil)))))
  (xSeq (xPut (.sl 6) (mCall m_leaves_within 3 [] (mCons (mVar 3) (mCons (mVar 8) (mCons (mVar 9) mNil)))))
  (xSeq (xIf (tOf (m2 neD (mL reprD (mCons (mVar 6) mNil)) (mL reprD (mCons (mVar 5) mNil)))) (xRet (mC (.bl false))) xNx)
  (xSeq (xIf (tAnd (tOf (m2 isntD (mVar 5) (mC .non))) (tOf (m2 neD (mCall m_leaves_within 3 [] (mCons (mVar 3) (mCons (mVar 8) (mCons (m2 addD (mVar 9) (mC (.int 20))) mNil)))) (mVar 5)))) (xRet (mC (.bl false))) xNx)
  (xSeq (xIf (tAnd (tOf (m2 isntD (mVar 5) (mC .non))) (tAnd (tOf (m2 gtD (mVar 5) (mC (.int 0)))) (tOf (m2 isntD (mCall m_leaves_within 3 [] (mCons (mVar 3) (mCons (mVar 8) (mCons (m2 subD (mVar 5) (mC (.int 1))) mNil)))) (mC .non))))) (xRet (mC (.bl false))) xNx)
  (xSeq (xPut (.sl 7) (mCall m__law_run_to 3 [] (mCons (mVar 1) (mCons (mCall m__law_next 2 [] (mCons (mVar 1) (mCons (mVar 8) mNil))) (mCons (m2 addD (mVar 9) (mC (.int 1))) mNil)))))
  (xSeq (xIf (tAnd (tOf (mCall m_holds 2 [] (mCons (mVar 3) (mCons (mVar 8) mNil)))) (tOf (m2 neD (mCall m_leaves_within 3 [] (mCons (mVar 3) (mCons (mCall m_led 2 [] (mCons (mVar 3) (mCons (mVar 8) mNil))) (mCons (mVar 9) mNil)))) (mVar 7)))) (xRet (mC (.bl false))) xNx)
  (xIf (tAnd (tOf (m2 isntD (mVar 5) (mC .non))) (tAnd (tOf (m2 gtD (mVar 5) (mC (.int 0)))) (tOf (m2 neD (mCall m_leaves_within 3 [] (mCons (mVar 3) (mCons (mCall m_led 2 [] (mCons (mVar 3) (mCons (mVar 8) mNil))) (mCons (mVar 9) mNil)))) (m2 subD (mVar 5) (mC (.int 1))))))) (xRet (mC (.bl false))) xNx)))))))))
noncomputable def f1__law_right_k16 : M Fl :=
  xFor (mItL range1D (mCons (mC (.int 8)) mNil)) (.sl 2) y1__law_right_k16
noncomputable def b__law_right_k16 : M Fl :=
  (xSeq (xPut (.sl 1) (mIo m__law_loop 2 0 (mCons (mC (.int 3)) (mCons (mC (.int 3)) mNil))))
  (xSeq (xPar 3 4 (mCons (mCall m__law_made_loop 1 [] (mCons (mVar 1) mNil)) (mCons (mL lenD (mCons (m2 dgetD (mVar 1) (mC (.str (Str.ofString "words")))) mNil)) mNil)))
  (xSeq f1__law_right_k16
  (xRet (mC (.bl true))))))
noncomputable def m__law_right_k16 : SV → List D → IR := runI 10 b__law_right_k16
/-! law -/
noncomputable def y1_law_k16 : M Fl :=
  (xIf (tNot (tOf (mIoT m__law_right_k16 (mCallN m__law_bowl 2 (mCons (mVar 0) (mCons (mVar 1) mNil)))))) (xRet (mC (.bl false))) xNx)
noncomputable def f1_law_k16 : M Fl :=
  xFor (mItL range1D (mCons (mL max2D (mCons (mC (.int 1)) (mCons (mL min2D (mCons (mC (.int 5)) (mCons (mL lenD (mCons (mVar 0) mNil)) mNil))) mNil))) mNil)) (.sl 1) y1_law_k16
noncomputable def b_law_k16 : M Fl :=
  (xSeq f1_law_k16
  (xSeq (xPut (.sl 2) (mMake "Loop" m_Loop___init__ 3 [] (mCons (mL tupD (mCons (mC (.str (Str.ofString "x"))) mNil)) (mCons (mL tupD (mCons (mL tupD (mCons (m1 negD (mC (.int 1))) (mCons (mC (.int 1)) mNil))) mNil)) (mCons (mL tupD (mCons (mL tupD (mCons (mC (.str (Str.ofString "more"))) (mCons (mL tupD (mCons (mC (.int 0)) (mCons (mC (.int 1)) mNil))) mNil))) mNil)) mNil)))))
  (xSeq (xPut (.sl 3) (mMake "Loop" m_Loop___init__ 3 [] (mCons (mL tupD (mCons (mC (.str (Str.ofString "y"))) (mCons (mC (.str (Str.ofString "x"))) mNil))) (mCons (mL tupD (mCons (mL tupD (mCons (m1 negD (mC (.int 1))) (mCons (mC (.int 1)) (mCons (mC (.int 0)) mNil)))) (mCons (mL tupD (mCons (mC (.int 0)) (mCons (mC (.int 1)) (mCons (mC (.int 1)) mNil)))) mNil))) (mCons (mL tupD (mCons (mL tupD (mCons (mC (.str (Str.ofString "more"))) (mCons (mL tupD (mCons (mC (.int 0)) (mCons (mC (.int 0)) (mCons (mC (.int 1)) mNil)))) mNil))) mNil)) mNil)))))
  (xSeq (xOwn 4 (mLstN (mCons (mCall m_leaves_within 3 [] (mCons (mVar 2) (mCons (mL tupD (mCons (mC (.int 2)) (mCons (mC (.int 7)) mNil))) (mCons (mC (.int 9)) mNil)))) (mCons (mCall m_leaves_within 3 [] (mCons (mVar 2) (mCons (mL tupD (mCons (mC (.int 2)) (mCons (mC (.int 7)) mNil))) (mCons (mC (.int 3)) mNil)))) (mCons (mCall m_leaves_within 3 [] (mCons (mVar 2) (mCons (mL tupD (mCons (mC (.int 1)) (mCons (mC (.int 400)) mNil))) (mCons (mC (.int 400)) mNil)))) mNil)))))
  (xSeq (xOwn 4 (mBinN addN (mVar 4) (mL lstD (mCons (mCall m_leaves_within 3 [] (mCons (mVar 2) (mCons (mL tupD (mCons (mC (.int 1)) (mCons (mC (.int 401)) mNil))) (mCons (mC (.int 400)) mNil)))) (mCons (mCall m_leaves_within 3 [] (mCons (mVar 3) (mCons (mL tupD (mCons (mC (.int 1)) (mCons (mC (.int 3)) (mCons (mC (.int 1)) mNil)))) (mCons (mC (.int 400)) mNil)))) mNil)))))
  (xSeq (xDrop (mApp 4 (mCall m_leaves_within 3 [] (mCons (mVar 2) (mCons (mL tupD (mCons (mC (.int 1)) (mCons (mC (.int 0)) mNil))) (mCons (mC (.int 0)) mNil))))))
  (xRet (m2 eqD (mVar 4) (mL lstD (mCons (mC (.int 4)) (mCons (mC .non) (mCons (mC (.int 400)) (mCons (mC .non) (mCons (mC (.int 8)) (mCons (mC (.int 0)) mNil)))))))))))))))
noncomputable def m_law_k16 : List D → FR D := runF 5 b_law_k16
/-! _law_bent -/
noncomputable def b__law_bent : M Fl :=
  (xSeq (xPut (.sl 2) (mIo m__law_bit 1 0 (mCons (mL lenD (mCons (mVar 1) mNil)) mNil)))
  (xSeq (xPut (.sl 3) (m2 addD (m2 ixD (mVar 1) (mVar 2)) (mIo m__law_pick 1 0 (mCons (mL lstD (mCons (mC (.int 0)) (mCons (mC (.int 1)) (mCons (m1 negD (mC (.int 1))) (mCons (m2 ixD (mVar 1) (mVar 2)) mNil))))) mNil))))
  (xRet (m2 addD (m2 addD (mSlice (mVar 1) mONone (mOSome (mVar 2))) (mL tupD (mCons (mIf (tOf (m2 eqD (mVar 2) (mC (.int 0)))) (mL max2D (mCons (mC (.int 1)) (mCons (mVar 3) mNil))) (mVar 3)) mNil))) (mSlice (mVar 1) (mOSome (m2 addD (mVar 2) (mC (.int 1)))) mONone)))))
noncomputable def m__law_bent : SV → List D → IR := runI 4 b__law_bent
/-! after -/
noncomputable def b_after : M Fl :=
  (xRet (m2 ixD (mCall m_moments 3 [] (mCons (mVar 0) (mCons (mVar 1) (mCons (mVar 2) mNil)))) (m1 negD (mC (.int 1)))))
noncomputable def m_after : List D → FR D := runF 3 b_after
/-! _law_is_same -/
noncomputable def e1__law_is_same : M D :=
  (mC (.int 1))
noncomputable def q1__law_is_same : M (List D) :=
  mLc (mItL zipMD (mCons (mVar 0) (mCons (mVar 1) mNil))) [2, 3] (.tp [(.sl 2), (.sl 3)]) (tOf (m2 neD (m2 mulD (mVar 2) (m2 ixD (mVar 1) (mC (.int 0)))) (m2 mulD (mVar 3) (m2 ixD (mVar 0) (mC (.int 0)))))) e1__law_is_same
noncomputable def b__law_is_same : M Fl :=
  (xRet (m2 eqD (mOfN q1__law_is_same) (mL lstD mNil)))
noncomputable def m__law_is_same : List D → FR D := runF 4 b__law_is_same
/-! _law_pair_right -/
noncomputable def b__law_pair_right : M Fl :=
  (xSeq (xPar 5 6 (mCons (mCall m__law_is_same 2 [] (mCons (mVar 2) (mCons (mVar 3) mNil))) (mCons (mIo m__law_bit 1 0 (mCons (mC (.int 30)) mNil)) mNil)))
  (xSeq (xPut (.sl 4) (mL lstD (mCons (mCall m_are_same 3 [] (mCons (mVar 1) (mCons (mVar 2) (mCons (mVar 3) mNil)))) (mCons (mCall m_are_same 3 [] (mCons (mVar 1) (mCons (mVar 3) (mCons (mVar 2) mNil)))) (mCons (m2 eqD (mCall m_lowest 2 [] (mCons (mVar 1) (mCons (mVar 2) mNil))) (mCall m_lowest 2 [] (mCons (mVar 1) (mCons (mVar 3) mNil)))) mNil)))))
  (xSeq (xIf (tOf (m2 neD (mL reprD (mCons (mVar 4) mNil)) (mL reprD (mCons (m2 mulD (mL lstD (mCons (mVar 5) mNil)) (mC (.int 3))) mNil)))) (xRet (mC (.bl false))) xNx)
  (xSeq (xPar 7 8 (mCons (mCall m_after 3 [] (mCons (mVar 1) (mCons (mVar 2) (mCons (mVar 6) mNil)))) (mCons (mCall m_after 3 [] (mCons (mVar 1) (mCons (mVar 3) (mCons (mVar 6) mNil)))) mNil)))
  (xSeq (xIf (tAnd (tOf (mVar 5)) (tNot (tOf (mCall m_are_same 3 [] (mCons (mVar 1) (mCons (mVar 7) (mCons (mVar 8) mNil))))))) (xRet (mC (.bl false))) xNx)
  (xRet (mOr (m1 notD (mVar 5)) (m2 eqD (mCall m_leaves_within 3 [] (mCons (mVar 1) (mCons (mVar 2) (mCons (mC (.int 30)) mNil)))) (mCall m_leaves_within 3 [] (mCons (mVar 1) (mCons (mVar 3) (mCons (mC (.int 30)) mNil))))))))))))
noncomputable def m__law_pair_right : SV → List D → IR := runI 9 b__law_pair_right
/-! _law_right -/
noncomputable def e1__law_right_k17 : M D :=
  (mIo m__law_start 2 0 (mCons (mVar 4) (mCons (mIo m__law_pick 1 0 (mCons (mL lstD (mCons (mC (.int 2)) (mCons (mC (.int 8)) (mCons (m2 powD (mC (.int 10)) (mC (.int 30))) mNil)))) mNil)) mNil)))
noncomputable def q1__law_right_k17 : M (List D) :=
  mLc (mItL range1D (mCons (mC (.int 6)) mNil)) [11] (.sl 11) tYesM e1__law_right_k17
noncomputable def e2__law_right_k17 : M D :=
  (m2 mulD (mVar 7) (mVar 17))
noncomputable def q2__law_right_k17 : M (List D) :=
  mLc (mWalk (mVar 5)) [17] (.sl 17) tYesM e2__law_right_k17
noncomputable def y1__law_right_k17 : M Fl :=
  (xIf (tNot (tOf (mIo m__law_pair_right 3 0 (mCons (mVar 3) (mCons (m2 ixD (mVar 9) (mC (.int 0))) (mCons (m2 ixD (mVar 9) (mC (.int 1))) mNil)))))) (xRet (mC (.bl false))) xNx)
noncomputable def f1__law_right_k17 : M Fl :=
  xFor (mWalk (mL tupD (mCons (mL tupD (mCons (mVar 5) (mCons (mVar 6) mNil))) (mCons (mL tupD (mCons (mVar 5) (mCons (mVar 12) mNil))) (mCons (mL tupD (mCons (mVar 12) (mCons (mVar 13) mNil))) (mCons (mL tupD (mCons (mVar 8) (mCons (mVar 13) mNil))) (mCons (mL tupD (mCons (mVar 13) (mCons (mVar 6) mNil))) mNil))))))) (.sl 9) y1__law_right_k17
noncomputable def e3__law_right_k17 : M D :=
  (m2 addD (mVar 18) (mVar 19))
noncomputable def q3__law_right_k17 : M (List D) :=
  mLc (mItL zipMD (mCons (mVar 5) (mCons (mVar 6) mNil))) [18, 19] (.tp [(.sl 18), (.sl 19)]) tYesM e3__law_right_k17
noncomputable def e4__law_right_k17 : M D :=
  (mCall m_after 3 [] (mCons (mVar 3) (mCons (mVar 16) (mCons (mVar 14) mNil))))
noncomputable def q4__law_right_k17 : M (List D) :=
  mLc (mWalk (mL tupD (mCons (mVar 5) (mCons (mVar 6) (mCons (mVar 15) mNil))))) [16] (.sl 16) tYesM e4__law_right_k17
noncomputable def e5__law_right_k17 : M D :=
  (m2 addD (mVar 18) (mVar 19))
noncomputable def q5__law_right_k17 : M (List D) :=
  mLc (mItL zipMD (mCons (m2 ixD (mVar 10) (mC (.int 0))) (mCons (m2 ixD (mVar 10) (mC (.int 1))) mNil))) [18, 19] (.tp [(.sl 18), (.sl 19)]) tYesM e5__law_right_k17
noncomputable def y2__law_right_k17 : M Fl :=
  (xSeq (xPut (.sl 7) (m2 addD (mC (.int 1)) (mIo m__law_bit 1 0 (mCons (mC (.int 12)) mNil))))
  (xSeq (xPar 12 13 (mCons (mL tupleD (mCons (mOfN q2__law_right_k17) mNil)) (mCons (mIo m__law_bent 1 0 (mCons (mVar 5) mNil)) mNil)))
  (xSeq (xPut (.sl 8) (mCall m_lowest 2 [] (mCons (mVar 3) (mCons (mVar 12) mNil))))
  (xSeq (xIf (tOr (tOf (m2 neD (mVar 8) (mCall m__law_short 1 [] (mCons (mVar 5) mNil)))) (tOr (tOf (m2 neD (mCall m_lowest 2 [] (mCons (mVar 3) (mCons (mVar 8) mNil))) (mVar 8))) (tNot (tOf (mCall m__law_is_same 2 [] (mCons (mVar 8) (mCons (mVar 5) mNil))))))) (xRet (mC (.bl false))) xNx)
  (xSeq f1__law_right_k17
  (xSeq (xPut (.tp [(.sl 14), (.sl 15)]) (mL tupD (mCons (mIo m__law_bit 1 0 (mCons (mC (.int 25)) mNil)) (mCons (mL tupleD (mCons (mOfN q3__law_right_k17) mNil)) mNil))))
  (xSeq (xPut (.sl 10) (mOfN q4__law_right_k17))
  (xSeq (xIf (tOf (m2 neD (m2 ixD (mVar 10) (mC (.int 2))) (mL tupleD (mCons (mOfN q5__law_right_k17) mNil)))) (xRet (mC (.bl false))) xNx)
  (xIf (tAnd (tOf (mCall m_holds 2 [] (mCons (mVar 3) (mCons (m2 ixD (mVar 10) (mC (.int 0))) mNil)))) (tAnd (tOf (mCall m_holds 2 [] (mCons (mVar 3) (mCons (m2 ixD (mVar 10) (mC (.int 1))) mNil)))) (tNot (tOf (mCall m_holds 2 [] (mCons (mVar 3) (mCons (m2 ixD (mVar 10) (mC (.int 2))) mNil))))))) (xRet (mC (.bl false))) xNx)))))))))
noncomputable def f2__law_right_k17 : M Fl :=
  xFor (mItL zipMD (mCons (mSlice (mVar 2) mONone (mOSome (m1 negD (mC (.int 1))))) (mCons (mSlice (mVar 2) (mOSome (mC (.int 1))) mONone) mNil))) (.tp [(.sl 5), (.sl 6)]) y2__law_right_k17
noncomputable def b__law_right_k17 : M Fl :=
  (xSeq (xPut (.sl 1) (mIo m__law_loop 2 0 (mCons (mC (.int 3)) (mCons (mC (.int 3)) mNil))))
  (xSeq (xPut (.tp [(.sl 3), (.sl 4)]) (mL tupD (mCons (mCall m__law_made_loop 1 [] (mCons (mVar 1) mNil)) (mCons (mL lenD (mCons (m2 dgetD (mVar 1) (mC (.str (Str.ofString "words")))) mNil)) mNil))))
  (xSeq (xPut (.sl 2) (mOfN q1__law_right_k17))
  (xSeq f2__law_right_k17
  (xRet (mC (.bl true)))))))
noncomputable def m__law_right_k17 : SV → List D → IR := runI 20 b__law_right_k17
/-! law -/
noncomputable def y1_law_k17 : M Fl :=
  (xIf (tNot (tOf (mIoT m__law_right_k17 (mCallN m__law_bowl 2 (mCons (mVar 0) (mCons (mVar 1) mNil)))))) (xRet (mC (.bl false))) xNx)
noncomputable def f1_law_k17 : M Fl :=
  xFor (mItL range1D (mCons (mL max2D (mCons (mC (.int 1)) (mCons (mL min2D (mCons (mC (.int 5)) (mCons (mL lenD (mCons (mVar 0) mNil)) mNil))) mNil))) mNil)) (.sl 1) y1_law_k17
noncomputable def b_law_k17 : M Fl :=
  (xSeq f1_law_k17
  (xSeq (xPut (.sl 2) (mMake "Loop" m_Loop___init__ 3 [] (mCons (mL tupD (mCons (mC (.str (Str.ofString "x"))) (mCons (mC (.str (Str.ofString "y"))) mNil))) (mCons (mL tupD (mCons (mL tupD (mCons (mC (.int 0)) (mCons (mC (.int 1)) (mCons (mC (.int 0)) mNil)))) (mCons (mL tupD (mCons (mC (.int 0)) (mCons (mC (.int 0)) (mCons (mC (.int 1)) mNil)))) mNil))) (mCons (mL tupD (mCons (mL tupD (mCons (mC (.str (Str.ofString "more"))) (mCons (mL tupD (mCons (mC (.int 0)) (mCons (mC (.int 1)) (mCons (mC (.int 0)) mNil)))) mNil))) mNil)) mNil)))))
  (xSeq (xPut (.sl 3) (mL lstD (mCons (mCall m_are_same 3 [] (mCons (mVar 2) (mCons (mL tupD (mCons (mC (.int 4)) (mCons (mC (.int 6)) (mCons (mC (.int 0)) mNil)))) (mCons (mL tupD (mCons (mC (.int 6)) (mCons (mC (.int 9)) (mCons (mC (.int 0)) mNil)))) mNil)))) (mCons (mCall m_are_same 3 [] (mCons (mVar 2) (mCons (mL tupD (mCons (mC (.int 4)) (mCons (mC (.int 6)) (mCons (mC (.int 0)) mNil)))) (mCons (mL tupD (mCons (mC (.int 2)) (mCons (mC (.int 3)) (mCons (mC (.int 1)) mNil)))) mNil)))) (mCons (mCall m_lowest 2 [] (mCons (mVar 2) (mCons (mL tupD (mCons (mC (.int 4)) (mCons (m1 negD (mC (.int 6))) (mCons (mC (.int 0)) mNil)))) mNil))) mNil)))))
  (xRet (m2 eqD (m2 addD (mVar 3) (mL lstD (mCons (mCall m_lowest 2 [] (mCons (mVar 2) (mCons (mL tupD (mCons (mC (.int 5)) (mCons (mC (.int 0)) (mCons (mC (.int 0)) mNil)))) mNil))) (mCons (mCall m_lowest 2 [] (mCons (mVar 2) (mCons (mL tupD (mCons (mC (.int 1)) (mCons (mC (.int 7)) (mCons (mC (.int 9)) mNil)))) mNil))) mNil)))) (mL lstD (mCons (mC (.bl true)) (mCons (mC (.bl false)) (mCons (mL tupD (mCons (mC (.int 2)) (mCons (m1 negD (mC (.int 3))) (mCons (mC (.int 0)) mNil)))) (mCons (mL tupD (mCons (mC (.int 1)) (mCons (mC (.int 0)) (mCons (mC (.int 0)) mNil)))) (mCons (mL tupD (mCons (mC (.int 1)) (mCons (mC (.int 7)) (mCons (mC (.int 9)) mNil)))) mNil)))))))))))
noncomputable def m_law_k17 : List D → FR D := runF 4 b_law_k17
/-! _law_right -/
noncomputable def y1__law_right_k14 : M Fl :=
  (xDrop (mApp 5 (mCall m__law_next 2 [] (mCons (mVar 1) (mCons (mIxN 5 (m1 negD (mC (.int 1)))) mNil)))))
noncomputable def f1__law_right_k14 : M Fl :=
  xFor (mItL range1D (mCons (mVar 10) mNil)) (.sl 6) y1__law_right_k14
noncomputable def y2__law_right_k14 : M Fl :=
  (xSeq (xIf (tOr (tOf (m2 neD (mCall m_after 3 [] (mCons (mVar 3) (mCons (mVar 9) (mCons (mVar 8) mNil)))) (mIxN 5 (mVar 8)))) (tOf (m2 neD (mCall m_after 3 [] (mCons (mVar 3) (mCons (mIxN 5 (mVar 8)) (mCons (m2 subD (mVar 10) (mVar 8)) mNil)))) (mIxN 5 (m1 negD (mC (.int 1))))))) (xRet (mC (.bl false))) xNx)
  (xIf (tOf (m2 neD (mCall m_moments 3 [] (mCons (mVar 3) (mCons (mIxN 5 (mVar 8)) (mCons (m2 subD (mVar 10) (mVar 8)) mNil)))) (mSlice (mVar 7) (mOSome (mVar 8)) mONone))) (xRet (mC (.bl false))) xNx))
noncomputable def f2__law_right_k14 : M Fl :=
  xFor (mWalk (mSlice (mIo m__law_dealt 1 0 (mCons (m1 listRgD (m2 addD (mVar 10) (mC (.int 1)))) mNil)) mONone (mOSome (mC (.int 4))))) (.sl 8) y2__law_right_k14
noncomputable def y3__law_right_k14 : M Fl :=
  (xSeq (xPar 9 10 (mCons (mIo m__law_start 2 0 (mCons (mVar 4) (mCons (mIo m__law_pick 1 0 (mCons (mL lstD (mCons (mC (.int 4)) (mCons (m2 powD (mC (.int 10)) (mC (.int 30))) mNil))) mNil)) mNil))) (mCons (mIo m__law_bit 1 0 (mCons (mC (.int 61)) mNil)) mNil)))
  (xSeq (xOwn 5 (mLstN (mCons (mVar 9) mNil)))
  (xSeq f1__law_right_k14
  (xSeq (xPut (.sl 7) (mCall m_moments 3 [] (mCons (mVar 3) (mCons (mVar 9) (mCons (mVar 10) mNil)))))
  (xSeq (xIf (tOf (m2 neD (mL reprD (mCons (mVar 7) mNil)) (mL reprD (mCons (mL tupleD (mCons (mVar 5) mNil)) mNil)))) (xRet (mC (.bl false))) xNx)
  (xSeq f2__law_right_k14
  (xIf (tOr (tOf (m2 neD (mCall m_after 3 [] (mCons (mVar 3) (mCons (mVar 9) (mCons (mC (.int 1)) mNil)))) (mCall m_led 2 [] (mCons (mVar 3) (mCons (mVar 9) mNil))))) (tOf (m2 neD (mCall m_moments 3 [] (mCons (mVar 3) (mCons (mVar 9) (mCons (mC (.int 0)) mNil)))) (mL tupD (mCons (mVar 9) mNil))))) (xRet (mC (.bl false))) xNx)))))))
noncomputable def f3__law_right_k14 : M Fl :=
  xFor (mItL range1D (mCons (mC (.int 3)) mNil)) (.sl 2) y3__law_right_k14
noncomputable def b__law_right_k14 : M Fl :=
  (xSeq (xPut (.sl 1) (mIo m__law_loop 2 0 (mCons (mC (.int 3)) (mCons (mC (.int 4)) mNil))))
  (xSeq (xPar 3 4 (mCons (mCall m__law_made_loop 1 [] (mCons (mVar 1) mNil)) (mCons (mL lenD (mCons (m2 dgetD (mVar 1) (mC (.str (Str.ofString "words")))) mNil)) mNil)))
  (xSeq f3__law_right_k14
  (xRet (mC (.bl true))))))
noncomputable def m__law_right_k14 : SV → List D → IR := runI 11 b__law_right_k14
/-! _law_power -/
noncomputable def y1__law_power : M Fl :=
  (xPut (.sl 2) (m2 mulD (mVar 2) (mVar 0)))
noncomputable def f1__law_power : M Fl :=
  xFor (mItL range1D (mCons (mVar 1) mNil)) (.sl 3) y1__law_power
noncomputable def b__law_power : M Fl :=
  (xSeq (xPut (.sl 2) (mC (.int 1)))
  (xSeq f1__law_power
  (xRet (mVar 2))))
noncomputable def m__law_power : List D → FR D := runF 4 b__law_power
/-! law -/
noncomputable def y1_law_k14 : M Fl :=
  (xIf (tNot (tOf (mIoT m__law_right_k14 (mCallN m__law_bowl 2 (mCons (mVar 0) (mCons (mVar 1) mNil)))))) (xRet (mC (.bl false))) xNx)
noncomputable def f1_law_k14 : M Fl :=
  xFor (mItL range1D (mCons (mL max2D (mCons (mC (.int 1)) (mCons (mL min2D (mCons (mC (.int 5)) (mCons (mL lenD (mCons (mVar 0) mNil)) mNil))) mNil))) mNil)) (.sl 1) y1_law_k14
noncomputable def b_law_k14 : M Fl :=
  (xSeq f1_law_k14
  (xSeq (xPut (.sl 2) (mMake "Loop" m_Loop___init__ 3 [] (mCons (mL tupD (mCons (mC (.str (Str.ofString "x"))) mNil)) (mCons (mL tupD (mCons (mL tupD (mCons (mC (.int 0)) (mCons (mC (.int 2)) mNil))) mNil)) (mCons (mL tupD (mCons (mL tupD (mCons (mC (.str (Str.ofString "more"))) (mCons (mL tupD (mCons (mC (.int 0)) (mCons (mC (.int 1)) mNil))) mNil))) mNil)) mNil)))))
  (xSeq (xIf (tOr (tOf (m2 neD (mCall m_after 3 [] (mCons (mVar 2) (mCons (mL tupD (mCons (mC (.int 3)) (mCons (mC (.int 1)) mNil))) (mCons (mC (.int c_MAX_ROUNDS)) mNil)))) (mL tupD (mCons (mC (.int 3)) (mCons (mCall m__law_power 2 [] (mCons (mC (.int 2)) (mCons (mC (.int 400)) mNil))) mNil))))) (tOf (m2 neD (mC (.int c_MAX_ROUNDS)) (mC (.int 400))))) (xRet (mC (.bl false))) xNx)
  (xRet (mAnd (m2 eqD (mL lenD (mCons (mCall m_moments 3 [] (mCons (mVar 2) (mCons (mL tupD (mCons (mC (.int 1)) (mCons (m1 negD (mC (.int 1))) mNil))) (mCons (mC (.int c_MAX_ROUNDS)) mNil)))) mNil)) (mC (.int 401))) (m2 eqD (mCall m_moments 3 [] (mCons (mVar 2) (mCons (mL tupD (mCons (mC (.int 2)) (mCons (m1 negD (mC (.int 3))) mNil))) (mCons (mC (.int 2)) mNil)))) (mL tupD (mCons (mL tupD (mCons (mC (.int 2)) (mCons (m1 negD (mC (.int 3))) mNil))) (mCons (mL tupD (mCons (mC (.int 2)) (mCons (m1 negD (mC (.int 6))) mNil))) (mCons (mL tupD (mCons (mC (.int 2)) (mCons (m1 negD (mC (.int 12))) mNil))) mNil))))))))))
noncomputable def m_law_k14 : List D → FR D := runF 3 b_law_k14
/-! turned_of -/
noncomputable def e1_turned_of : M D :=
  (m1 negD (mVar 4))
noncomputable def q1_turned_of : M (List D) :=
  mLc (mWalk (mVar 3)) [4] (.sl 4) tYesM e1_turned_of
noncomputable def e2_turned_of : M D :=
  (mL tupleD (mCons (mOfN q1_turned_of) mNil))
noncomputable def q2_turned_of : M (List D) :=
  mLc (mWalk (mVar 2)) [3] (.sl 3) tYesM e2_turned_of
noncomputable def b_turned_of : M Fl :=
  (xSeq (xPut (.tp [(.sl 1), (.sl 2)]) (mVar 0))
  (xRet (mL tupD (mCons (m1 (wgetD c_OTHER_SIGNS) (mVar 1)) (mCons (mL tupleD (mCons (mOfN q2_turned_of) mNil)) mNil)))))
noncomputable def m_turned_of : List D → FR D := runF 5 b_turned_of
/-! is_strand_of -/
noncomputable def e1_is_strand_of_k55 : M D :=
  (mCall m_is_row_within 3 [] (mCons (mVar 4) (mCons (mVar 1) (mCons (mC (.int c_MAX_SIZE)) mNil))))
noncomputable def q1_is_strand_of_k55 : M (List D) :=
  mLc (mWalk (mVar 3)) [4] (.sl 4) tYesM e1_is_strand_of_k55
noncomputable def b_is_strand_of_k55 : M Fl :=
  (xSeq (xIf (tOr (tNot (tOf (mL isiD (mCons (mVar 0) (mCons (mC (.opq (.ty "tuple"))) mNil))))) (tOr (tOf (m2 neD (mL lenD (mCons (mVar 0) mNil)) (mC (.int 2)))) (tNot (tOf (mL isiD (mCons (m2 ixD (mVar 0) (mC (.int 0))) (mCons (mC (.opq (.ty "str"))) mNil))))))) (xRet (mC (.bl false))) xNx)
  (xSeq (xPut (.tp [(.sl 2), (.sl 3)]) (mVar 0))
  (xSeq (xIf (tOr (tOf (m2 ninD (mVar 2) (mL tupD (mCons (mC (.str c_MORE_systems)) (mCons (mC (.str c_LEAST_systems)) (mCons (mC (.str c_NULL)) mNil)))))) (tOr (tNot (tOf (mL isiD (mCons (mVar 3) (mCons (mC (.opq (.ty "tuple"))) mNil))))) (tNot (tOf (mChain leD leD (mC (.int 1)) (mL lenD (mCons (mVar 3) mNil)) (mC (.int c_MAX_ROWS))))))) (xRet (mC (.bl false))) xNx)
  (xRet (mL allD (mCons (mOfN q1_is_strand_of_k55) mNil))))))
noncomputable def m_is_strand_of_k55 : List D → FR D := runF 5 b_is_strand_of_k55
/-! is_strand -/
noncomputable def e1_is_strand : M D :=
  (mCall m_is_strand_of_k55 2 [] (mCons (mVar 0) (mCons (mVar 1) mNil)))
noncomputable def q1_is_strand : M (List D) :=
  mLc (mItL range2D (mCons (mC (.int 1)) (mCons (m2 addD (mC (.int c_MAX_WIDTH)) (mC (.int 1))) mNil))) [1] (.sl 1) tYesM e1_is_strand
noncomputable def b_is_strand : M Fl :=
  (xRet (mL anyD (mCons (mOfN q1_is_strand) mNil)))
noncomputable def m_is_strand : List D → FR D := runF 2 b_is_strand
/-! turned -/
noncomputable def b_turned : M Fl :=
  (xSeq (xIf (tOr (tNot (tOf (mCall m_is_strand 1 [] (mCons (mVar 0) mNil)))) (tOf (m1 (wninD c_OTHER_SIGNS) (m2 ixD (mVar 0) (mC (.int 0)))))) (xRaise (Str.ofString "InvalidSystem")) xNx)
  (xRet (mCall m_turned_of 1 [] (mCons (mVar 0) mNil))))
noncomputable def m_turned : List D → FR D := runF 1 b_turned
/-! is_met -/
noncomputable def b_is_met_k55 : M Fl :=
  (xSeq (xPut (.tp [(.sl 3), (.sl 4)]) (mVar 0))
  (xSeq (xPut (.sl 2) (mCall m_first_sign 2 [] (mCons (mVar 4) (mCons (mVar 1) mNil))))
  (xSeq (xIf (tOf (m2 eqD (mVar 3) (mC (.str c_NULL)))) (xRet (m2 eqD (mVar 2) (mC (.int 0)))) xNx)
  (xRet (mOr (m2 eqD (mVar 2) (mC (.int 1))) (mAnd (m2 eqD (mVar 3) (mC (.str c_LEAST_systems))) (m2 eqD (mVar 2) (mC (.int 0)))))))))
noncomputable def m_is_met_k55 : List D → FR D := runF 5 b_is_met_k55
/-! meets -/
noncomputable def e1_meets_k55 : M D :=
  (mCall m_is_met_k55 2 [] (mCons (mVar 2) (mCons (mVar 1) mNil)))
noncomputable def q1_meets_k55 : M (List D) :=
  mLc (mWalk (m1 (fldD ["System"] "own_strands") (mVar 0))) [2] (.sl 2) tYesM e1_meets_k55
noncomputable def b_meets_k55 : M Fl :=
  (xSeq (xIf (tOr (tNot (tOf (mCall m_is_row 1 [] (mCons (mVar 1) mNil)))) (tOf (m2 neD (mL lenD (mCons (mVar 1) mNil)) (m1 (fldD ["System"] "own_width") (mVar 0))))) (xRet (mC (.bl false))) xNx)
  (xRet (mL allD (mCons (mOfN q1_meets_k55) mNil))))
noncomputable def m_meets_k55 : List D → FR D := runF 3 b_meets_k55
/-! System.__contains__ -/
noncomputable def b_System___contains___k55 : M Fl :=
  (xRet (mCall m_meets_k55 2 [] (mCons (mVar 0) (mCons (mVar 1) mNil))))
noncomputable def m_System___contains___k55 : List D → FR D := runF 2 b_System___contains___k55
/-! _law_turned -/
noncomputable def e1__law_turned : M D :=
  (m2 subD (mC (.int 0)) (mVar 3))
noncomputable def q1__law_turned : M (List D) :=
  mLc (mWalk (mVar 2)) [3] (.sl 3) tYesM e1__law_turned
noncomputable def e2__law_turned : M D :=
  (mL tupleD (mCons (mOfN q1__law_turned) mNil))
noncomputable def q2__law_turned : M (List D) :=
  mLc (mWalk (m2 ixD (mVar 0) (mC (.int 1)))) [2] (.sl 2) tYesM e2__law_turned
noncomputable def b__law_turned : M Fl :=
  (xSeq (xPut (.sl 1) (mL tupleD (mCons (mOfN q2__law_turned) mNil)))
  (xRet (mL tupD (mCons (mIf (tOf (m2 eqD (m2 ixD (mVar 0) (mC (.int 0))) (mC (.str (Str.ofString "more"))))) (mC (.str (Str.ofString "least"))) (mC (.str (Str.ofString "more")))) (mCons (mVar 1) mNil)))))
noncomputable def m__law_turned : List D → FR D := runF 4 b__law_turned
/-! are_strands -/
noncomputable def e1_are_strands_k55 : M D :=
  (mCall m_is_strand_of_k55 2 [] (mCons (mVar 2) (mCons (mVar 1) mNil)))
noncomputable def q1_are_strands_k55 : M (List D) :=
  mLc (mWalk (mVar 0)) [2] (.sl 2) tYesM e1_are_strands_k55
noncomputable def e2_are_strands_k55 : M D :=
  (mL allD (mCons (mOfN q1_are_strands_k55) mNil))
noncomputable def q2_are_strands_k55 : M (List D) :=
  mLc (mItL range2D (mCons (mC (.int 1)) (mCons (m2 addD (mC (.int c_MAX_WIDTH)) (mC (.int 1))) mNil))) [1] (.sl 1) tYesM e2_are_strands_k55
noncomputable def b_are_strands_k55 : M Fl :=
  (xSeq (xIf (tOr (tNot (tOf (mL isiD (mCons (mVar 0) (mCons (mC (.opq (.ty "tuple"))) mNil))))) (tNot (tOf (mChain leD leD (mC (.int 1)) (mL lenD (mCons (mVar 0) mNil)) (mC (.int c_MAX_STRANDS)))))) (xRet (mC (.bl false))) xNx)
  (xRet (mL anyD (mCons (mOfN q2_are_strands_k55) mNil))))
noncomputable def m_are_strands_k55 : List D → FR D := runF 3 b_are_strands_k55
/-! System.__init__ -/
noncomputable def b_System___init___k55 : M Fl :=
  (xSeq (xIf (tNot (tOf (mCall m_are_strands_k55 1 [] (mCons (mVar 1) mNil)))) (xRaise (Str.ofString "InvalidSystem")) xNx)
  (xSeq (xFld 0 "System" "own_strands" (mVar 1))
  (xFld 0 "System" "own_width" (mL lenD (mCons (m2 ixD (m2 ixD (m2 ixD (mVar 1) (mC (.int 0))) (mC (.int 1))) (mC (.int 0))) mNil)))))
noncomputable def m_System___init___k55 : SV → List D → IR := runI 2 b_System___init___k55
/-! _law_meets -/
noncomputable def e1__law_meets : M D :=
  (mCall m__law_amount 2 [] (mCons (mVar 6) (mCons (mVar 1) mNil)))
noncomputable def q1__law_meets : M (List D) :=
  mLc (mWalk (mVar 4)) [6] (.sl 6) tYesM e1__law_meets
noncomputable def e2__law_meets : M D :=
  (mVar 5)
noncomputable def q2__law_meets : M (List D) :=
  mLc (mWalk (mOfN q1__law_meets)) [5] (.sl 5) (tOf (m2 neD (mVar 5) (mC (.int 0)))) e2__law_meets
noncomputable def b__law_meets : M Fl :=
  (xSeq (xPut (.tp [(.sl 3), (.sl 4)]) (mVar 0))
  (xSeq (xPut (.sl 2) (mOfN q2__law_meets))
  (xSeq (xIf (tOf (m2 eqD (mVar 2) (mL lstD mNil))) (xRet (m2 neD (mVar 3) (mC (.str (Str.ofString "more"))))) xNx)
  (xRet (mAnd (m2 neD (mVar 3) (mC (.str (Str.ofString "null")))) (m2 gtD (m2 ixD (mVar 2) (mC (.int 0))) (mC (.int 0))))))))
noncomputable def m__law_meets : List D → FR D := runF 7 b__law_meets
/-! _law_right -/
noncomputable def y1__law_right_k55 : M Fl :=
  (xSeq (xPut (.sl 8) (mIo m__law_line 2 0 (mCons (mVar 1) (mCons (mIo m__law_pick 1 0 (mCons (mL lstD (mCons (mC (.int 1)) (mCons (mC (.int 2)) (mCons (mC (.int 9)) mNil)))) mNil)) mNil))))
  (xSeq (xPut (.sl 9) (mL lstD (mCons (m2 (inO "System" m_System___contains___k55) (mVar 8) (mMake "System" m_System___init___k55 1 [] (mCons (mL tupD (mCons (mVar 3) mNil)) mNil))) (mCons (m2 (inO "System" m_System___contains___k55) (mVar 8) (mMake "System" m_System___init___k55 1 [] (mCons (mL tupD (mCons (mVar 4) mNil)) mNil))) mNil))))
  (xIf (tOr (tOf (m2 neD (mVar 9) (mL lstD (mCons (mCall m__law_meets 2 [] (mCons (mVar 3) (mCons (mVar 8) mNil))) (mCons (mCall m__law_meets 2 [] (mCons (mVar 4) (mCons (mVar 8) mNil))) mNil))))) (tOf (m2 eqD (m2 ixD (mVar 9) (mC (.int 0))) (m2 ixD (mVar 9) (mC (.int 1)))))) (xRet (mC (.bl false))) xNx)))
noncomputable def f1__law_right_k55 : M Fl :=
  xFor (mItL range1D (mCons (mC (.int 8)) mNil)) (.sl 5) y1__law_right_k55
noncomputable def y2__law_right_k55 : M Fl :=
  (xSeq (xPut (.tp [(.sl 6), (.sl 7)]) (mIo m__law_strand 3 0 (mCons (mVar 1) (mCons (mC (.int 3)) (mCons (mC (.int 3)) mNil)))))
  (xSeq (xPut (.sl 3) (mL tupD (mCons (mIo m__law_pick 1 0 (mCons (mL lstD (mCons (mC (.str (Str.ofString "more"))) (mCons (mC (.str (Str.ofString "least"))) mNil))) mNil)) (mCons (mVar 7) mNil))))
  (xSeq (xPut (.sl 4) (mCall m_turned 1 [] (mCons (mVar 3) mNil)))
  (xSeq (xIf (tOr (tOf (m2 neD (mL reprD (mCons (mVar 4) mNil)) (mL reprD (mCons (mCall m__law_turned 1 [] (mCons (mVar 3) mNil)) mNil)))) (tOf (m2 neD (mCall m_turned 1 [] (mCons (mVar 4) mNil)) (mVar 3)))) (xRet (mC (.bl false))) xNx)
  f1__law_right_k55))))
noncomputable def f2__law_right_k55 : M Fl :=
  xFor (mItL range1D (mCons (mC (.int 4)) mNil)) (.sl 2) y2__law_right_k55
noncomputable def b__law_right_k55 : M Fl :=
  (xSeq (xPut (.sl 1) (m2 addD (mC (.int 1)) (mIo m__law_bit 1 0 (mCons (mC (.int 4)) mNil))))
  (xSeq f2__law_right_k55
  (xRet (mC (.bl true)))))
noncomputable def m__law_right_k55 : SV → List D → IR := runI 10 b__law_right_k55
/-! law -/
noncomputable def y1_law_k55 : M Fl :=
  (xSeq (xOwn 4 (mCallN m__law_bowl 2 (mCons (mVar 0) (mCons (mVar 1) mNil))))
  (xIf (tOr (tNot (tOf (mIo m__law_right_k55 0 4 mNil))) (tNot (tOf (mIo m__law_right_k55 0 4 mNil)))) (xRet (mC (.bl false))) xNx))
noncomputable def f1_law_k55 : M Fl :=
  xFor (mItL range1D (mCons (mL max2D (mCons (mC (.int 1)) (mCons (mL min2D (mCons (mC (.int 8)) (mCons (mL lenD (mCons (mVar 0) mNil)) mNil))) mNil))) mNil)) (.sl 1) y1_law_k55
noncomputable def b_law_k55 : M Fl :=
  (xSeq f1_law_k55
  (xSeq (xPut (.sl 2) (mL tupD (mCons (mC (.str (Str.ofString "least"))) (mCons (mL tupD (mCons (mL tupD (mCons (mC (.int 0)) (mCons (mC (.int 0)) mNil))) (mCons (mL tupD (mCons (mC (.int 0)) (mCons (mC (.int 0)) mNil))) mNil))) mNil))))
  (xSeq (xPut (.sl 3) (mL lstD (mCons (mCall m_turned 1 [] (mCons (mVar 2) mNil)) (mCons (mCall m_turned 1 [] (mCons (mL tupD (mCons (mC (.str (Str.ofString "more"))) (mCons (mL tupD (mCons (mL tupD (mCons (mC (.int 3)) (mCons (mC (.int 0)) (mCons (m1 negD (mC (.int 1))) mNil)))) mNil)) mNil))) mNil)) mNil))))
  (xSeq (xPut (.sl 3) (m2 addD (mVar 3) (mL lstD (mCons (m2 (inO "System" m_System___contains___k55) (mL tupD (mCons (mC (.int 5)) (mCons (mC (.int 7)) mNil))) (mMake "System" m_System___init___k55 1 [] (mCons (mL tupD (mCons (mVar 2) mNil)) mNil))) (mCons (m2 (inO "System" m_System___contains___k55) (mL tupD (mCons (mC (.int 5)) (mCons (mC (.int 7)) mNil))) (mMake "System" m_System___init___k55 1 [] (mCons (mL tupD (mCons (mCall m_turned 1 [] (mCons (mVar 2) mNil)) mNil)) mNil))) mNil)))))
  (xRet (m2 eqD (mVar 3) (mL lstD (mCons (mL tupD (mCons (mC (.str (Str.ofString "more"))) (mCons (mL tupD (mCons (mL tupD (mCons (mC (.int 0)) (mCons (mC (.int 0)) mNil))) (mCons (mL tupD (mCons (mC (.int 0)) (mCons (mC (.int 0)) mNil))) mNil))) mNil))) (mCons (mL tupD (mCons (mC (.str (Str.ofString "least"))) (mCons (mL tupD (mCons (mL tupD (mCons (m1 negD (mC (.int 3))) (mCons (mC (.int 0)) (mCons (mC (.int 1)) mNil)))) mNil)) mNil))) (mCons (mC (.bl true)) (mCons (mC (.bl false)) mNil)))))))))))
noncomputable def m_law_k55 : List D → FR D := runF 5 b_law_k55
/-! _law_point -/
noncomputable def e1__law_point : M D :=
  (mIo m__law_pick 1 0 (mCons (mL lstD (mCons (mC (.int 0)) (mCons (mC (.int 0)) (mCons (mC (.int 1)) (mCons (m1 negD (mC (.int 1))) (mCons (mC (.int 2)) (mCons (m1 negD (mC (.int 2))) (mCons (mC (.int 3)) (mCons (mC (.int 5)) mNil))))))))) mNil))
noncomputable def q1__law_point : M (List D) :=
  mLc (mItL range1D (mCons (mVar 1) mNil)) [2] (.sl 2) tYesM e1__law_point
noncomputable def b__law_point : M Fl :=
  (xRet (mL tupleD (mCons (mOfN q1__law_point) mNil)))
noncomputable def m__law_point : SV → List D → IR := runI 3 b__law_point
/-! _law_right -/
noncomputable def e1__law_right_k26 : M D :=
  (mVar 9)
noncomputable def q1__law_right_k26 : M (List D) :=
  mLc (mWalk (mVar 1)) [9] (.sl 9) (tNot (tOf (mCall m__law_meets 2 [] (mCons (mVar 9) (mCons (mVar 2) mNil))))) e1__law_right_k26
noncomputable def e2__law_right_k26 : M D :=
  (m2 subD (mC (.int 0)) (mVar 9))
noncomputable def q2__law_right_k26 : M (List D) :=
  mLc (mWalk (mVar 2)) [9] (.sl 9) tYesM e2__law_right_k26
noncomputable def e3__law_right_k26 : M D :=
  (mVar 9)
noncomputable def q3__law_right_k26 : M (List D) :=
  mLc (mWalk (mVar 1)) [9] (.sl 9) (tNot (tOf (mCall m__law_meets 2 [] (mCons (mVar 9) (mCons (mVar 5) mNil))))) e3__law_right_k26
noncomputable def e4__law_right_k26 : M D :=
  (m2 mulD (mC (.int 3)) (mVar 9))
noncomputable def q4__law_right_k26 : M (List D) :=
  mLc (mWalk (mVar 2)) [9] (.sl 9) tYesM e4__law_right_k26
noncomputable def e5__law_right_k26 : M D :=
  (mVar 10)
noncomputable def q5__law_right_k26 : M (List D) :=
  mLc (mWalk (m2 ixD (mVar 9) (mC (.int 1)))) [10] (.sl 10) (tOf (m2 neD (mCall m__law_amount 2 [] (mCons (mVar 10) (mCons (mVar 2) mNil))) (mC (.int 0)))) e5__law_right_k26
noncomputable def e6__law_right_k26 : M D :=
  (mVar 9)
noncomputable def q6__law_right_k26 : M (List D) :=
  mLc (mWalk (mVar 1)) [9] (.sl 9) (tOf (m2 neD (mOfN q5__law_right_k26) (mL lstD mNil))) e6__law_right_k26
noncomputable def e7__law_right_k26 : M D :=
  (mVar 9)
noncomputable def q7__law_right_k26 : M (List D) :=
  mLc (mWalk (mVar 8)) [9] (.sl 9) (tOf (m2 (inO "System" m_System___contains__) (mVar 9) (mVar 3))) e7__law_right_k26
noncomputable def b__law_right_k26 : M Fl :=
  (xSeq (xPut (.sl 3) (mMake "System" m_System___init__ 1 [] (mCons (mVar 1) mNil)))
  (xSeq (xPut (.sl 4) (m2 eqD (mOfN q1__law_right_k26) (mL lstD mNil)))
  (xSeq (xPut (.sl 5) (mL tupleD (mCons (mOfN q2__law_right_k26) mNil)))
  (xSeq (xPut (.sl 6) (m2 eqD (mOfN q3__law_right_k26) (mL lstD mNil)))
  (xSeq (xIf (tOf (m2 neD (mL reprD (mCons (mL lstD (mCons (m2 (inO "System" m_System___contains__) (mVar 2) (mVar 3)) (mCons (m2 (inO "System" m_System___contains__) (mVar 5) (mVar 3)) mNil))) mNil)) (mL reprD (mCons (mL lstD (mCons (mVar 4) (mCons (mVar 6) mNil))) mNil)))) (xRet (mC (.bl false))) xNx)
  (xSeq (xIf (tOf (m2 neD (m2 (inO "System" m_System___contains__) (mL tupleD (mCons (mOfN q4__law_right_k26) mNil)) (mVar 3)) (mVar 4))) (xRet (mC (.bl false))) xNx)
  (xSeq (xPut (.sl 7) (m2 eqD (mOfN q6__law_right_k26) (mL lstD mNil)))
  (xSeq (xIf (tAnd (tOf (mVar 4)) (tAnd (tOf (mVar 6)) (tNot (tOf (mVar 7))))) (xRet (mC (.bl false))) xNx)
  (xSeq (xPut (.sl 8) (mL lstD (mCons (mC .non) (mCons (mC (.int 0)) (mCons (mL listD (mCons (mVar 2) mNil)) (mCons (m2 addD (mVar 2) (mL tupD (mCons (mC (.int 0)) mNil))) (mCons (mSlice (mVar 2) mONone (mOSome (m1 negD (mC (.int 1))))) (mCons (m2 addD (mSlice (mVar 2) mONone (mOSome (m1 negD (mC (.int 1))))) (mL tupD (mCons (mC .non) mNil))) (mCons (m2 addD (mSlice (mVar 2) mONone (mOSome (m1 negD (mC (.int 1))))) (mL tupD (mCons (mC (.bl true)) mNil))) (mCons (mC (.str (Str.ofString "x"))) (mCons (mC (.dct [] [])) (mCons (mL lstD (mCons (mVar 2) mNil)) mNil))))))))))))
  (xRet (m2 eqD (mOfN q7__law_right_k26) (mL lstD mNil))))))))))))
noncomputable def m__law_right_k26 : List D → FR D := runF 11 b__law_right_k26
/-! _law_on_row -/
noncomputable def e1__law_on_row : M D :=
  (mVar 8)
noncomputable def q1__law_on_row : M (List D) :=
  mLc (mItL enumD (mCons (mVar 3) mNil)) [8, 6] (.tp [(.sl 8), (.sl 6)]) (tOf (m2 neD (mVar 6) (mC (.int 0)))) e1__law_on_row
noncomputable def b__law_on_row : M Fl :=
  (xSeq (xPut (.sl 3) (mIo m__law_pick 1 0 (mCons (m2 ixD (mIo m__law_pick 1 0 (mCons (mVar 1) mNil)) (mC (.int 1))) mNil)))
  (xSeq (xPut (.sl 4) (mOfN q1__law_on_row))
  (xSeq (xIf (tOf (m2 ltD (mL lenD (mCons (mVar 4) mNil)) (mC (.int 2)))) (xRet (mVar 2)) xNx)
  (xSeq (xPar 6 7 (mCons (m2 ixD (mVar 4) (mC (.int 0))) (mCons (m2 ixD (mVar 4) (m1 negD (mC (.int 1)))) mNil)))
  (xSeq (xOwn 5 (mBinN mulN (mL lstD (mCons (mC (.int 0)) mNil)) (mL lenD (mCons (mVar 2) mNil))))
  (xSeq (xPar2 5 (mL tupD (mCons (m2 subD (mC (.int 0)) (m2 ixD (mVar 3) (mVar 7))) (mCons (m2 ixD (mVar 3) (mVar 6)) mNil))) (mVar 6) (mVar 7))
  (xRet (mL tupleD (mCons (mVar 5) mNil)))))))))
noncomputable def m__law_on_row : SV → List D → IR := runI 9 b__law_on_row
/-! law -/
noncomputable def y1_law_k26 : M Fl :=
  (xSeq (xPut (.sl 12) (mIo m__law_point 1 6 (mCons (mVar 8) mNil)))
  (xSeq (xIf (tNot (tOf (mCall m__law_right_k26 3 [] (mCons (mAny 6) (mCons (mVar 9) (mCons (mVar 12) mNil)))))) (xRet (mC (.bl false))) xNx)
  (xIf (tNot (tOf (mCall m__law_right_k26 3 [] (mCons (mAny 6) (mCons (mVar 9) (mCons (mIo m__law_on_row 2 6 (mCons (mVar 9) (mCons (mVar 12) mNil))) mNil)))))) (xRet (mC (.bl false))) xNx)))
noncomputable def f1_law_k26 : M Fl :=
  xFor (mItL range1D (mCons (mC (.int 12)) mNil)) (.sl 10) y1_law_k26
noncomputable def y2_law_k26 : M Fl :=
  (xSeq (xPut (.sl 8) (m2 addD (mC (.int 1)) (mIo m__law_bit 1 6 (mCons (mC (.int 4)) mNil))))
  (xSeq (xPut (.sl 9) (mIo m__law_pack 2 6 (mCons (mVar 8) (mCons (mC (.int 6)) mNil))))
  f1_law_k26))
noncomputable def f2_law_k26 : M Fl :=
  xFor (mItL range1D (mCons (mC (.int 3)) mNil)) (.sl 7) y2_law_k26
noncomputable def y3_law_k26 : M Fl :=
  (xSeq (xOwn 6 (mCallN m__law_bowl 2 (mCons (mVar 0) (mCons (mVar 1) mNil))))
  f2_law_k26)
noncomputable def f3_law_k26 : M Fl :=
  xFor (mItL range1D (mCons (mL max2D (mCons (mC (.int 1)) (mCons (mL min2D (mCons (mC (.int 8)) (mCons (mL lenD (mCons (mVar 0) mNil)) mNil))) mNil))) mNil)) (.sl 1) y3_law_k26
noncomputable def e1_law_k26 : M D :=
  (m2 (inO "System" m_System___contains__) (mVar 12) (mMake "System" m_System___init__ 1 [] (mCons (mL tupD (mCons (mVar 11) mNil)) mNil)))
noncomputable def q1_law_k26 : M (List D) :=
  mLc (mWalk (mVar 3)) [12] (.sl 12) tYesM e1_law_k26
noncomputable def e2_law_k26 : M D :=
  (mOfN q1_law_k26)
noncomputable def q2_law_k26 : M (List D) :=
  mLc (mWalk (mVar 2)) [11] (.sl 11) tYesM e2_law_k26
noncomputable def b_law_k26 : M Fl :=
  (xSeq f3_law_k26
  (xSeq (xPut (.sl 2) (mL tupD (mCons (mL tupD (mCons (mC (.str (Str.ofString "more"))) (mCons (mL tupD (mCons (mL tupD (mCons (mC (.int 1)) (mCons (mC (.int 0)) mNil))) (mCons (mL tupD (mCons (mC (.int 0)) (mCons (mC (.int 1)) mNil))) mNil))) mNil))) (mCons (mL tupD (mCons (mC (.str (Str.ofString "least"))) (mCons (mL tupD (mCons (mL tupD (mCons (mC (.int 1)) (mCons (mC (.int 0)) mNil))) (mCons (mL tupD (mCons (mC (.int 0)) (mCons (mC (.int 1)) mNil))) mNil))) mNil))) (mCons (mL tupD (mCons (mC (.str (Str.ofString "null"))) (mCons (mL tupD (mCons (mL tupD (mCons (mC (.int 1)) (mCons (mC (.int 0)) mNil))) (mCons (mL tupD (mCons (mC (.int 0)) (mCons (mC (.int 1)) mNil))) mNil))) mNil))) mNil)))))
  (xSeq (xPut (.sl 3) (mL lstD (mCons (mL tupD (mCons (mC (.int 0)) (mCons (mC (.int 0)) mNil))) (mCons (mL tupD (mCons (mC (.int 0)) (mCons (mC (.int 1)) mNil))) (mCons (mL tupD (mCons (mC (.int 1)) (mCons (m1 negD (mC (.int 5))) mNil))) (mCons (mL tupD (mCons (mC (.int 0)) (mCons (m1 negD (mC (.int 1))) mNil))) (mCons (mL tupD (mCons (m1 negD (mC (.int 1))) (mCons (mC (.int 9)) mNil))) mNil)))))))
  (xSeq (xPut (.sl 4) (mOfN q2_law_k26))
  (xSeq (xPut (.sl 5) (mL lstD (mCons (mL lstD (mCons (mC (.bl false)) (mCons (mC (.bl true)) (mCons (mC (.bl true)) (mCons (mC (.bl false)) (mCons (mC (.bl false)) mNil)))))) (mCons (mL lstD (mCons (mC (.bl true)) (mCons (mC (.bl true)) (mCons (mC (.bl true)) (mCons (mC (.bl false)) (mCons (mC (.bl false)) mNil)))))) (mCons (mL lstD (mCons (mC (.bl true)) (mCons (mC (.bl false)) (mCons (mC (.bl false)) (mCons (mC (.bl false)) (mCons (mC (.bl false)) mNil)))))) mNil)))))
  (xRet (m2 eqD (mVar 4) (mVar 5))))))))
noncomputable def m_law_k26 : List D → FR D := runF 13 b_law_k26
end Pm
/-! LA: whole numbers, rows, sums of products. -/
namespace Pm
open PySem PySem.Spec PyProof.Rows L2 Mr
theorem great_big : ((2 ^ 600 : Nat) : Int) ≤ c_GREATEST := by unfold c_GREATEST; decide
/-- a number that can be passed -/
def isI (i : Int) : Bool := decide (-c_GREATEST ≤ i) && decide (i ≤ c_GREATEST)
theorem isI_sz {i : Int} (h : Sz 600 i) : isI i = true := by
  have h1 := h.lt; have h2 := h.gt; have h3 := great_big
  have a1 : -c_GREATEST ≤ i := by omega
  have a2 : i ≤ c_GREATEST := by omega
  simp [isI, a1, a2]
theorem e_is_integer' {i : Int} : m_is_integer [.int i] = .ok (.bl (isI i)) := by
  unfold m_is_integer b_is_integer runF isI
  by_cases a : -c_GREATEST ≤ i <;> simp [a]
theorem e_is_integer {i : Int} (h : Sz 600 i) : m_is_integer [.int i] = .ok (.bl true) := by rw [e_is_integer', isI_sz h]
def rowD (r : List Int) : D := .tup (r.map .int)
@[simp] theorem len_rowD {r : List Int} : lenD [rowD r] = .ok (.int r.length) := by simp [rowD]
@[simp] theorem walk_rowD {r : List Int} : walkD (rowD r) = .ok (r.map .int) := id rfl
@[simp] theorem isi_rowD {r : List Int} : isiD [rowD r, .opq (.ty "tuple")] = .ok (.bl true) := id rfl
@[simp] theorem okD_rowD {n : Nat} {r : List Int} : okD (n + 1) (rowD r) = true := by unfold rowD; simp
theorem map_int_inj : ∀ {r q : List Int}, r.map D.int = q.map D.int → r = q
  | [], [], _ => rfl
  | [], _ :: _, h => by cases h
  | _ :: _, [], h => by cases h
  | a :: r, b :: q, h => by
    rw [List.map_cons, List.map_cons] at h
    have h1 : D.int a = D.int b := (List.cons.inj h).1
    rw [map_int_inj (List.cons.inj h).2]
    cases h1; rfl
theorem rowD_inj {r q : List Int} (h : rowD r = rowD q) : r = q := map_int_inj (D.tup.inj h)
structure Row (ns : List Int) : Prop where
  ne : ns ≠ []
  le : ns.length ≤ 4
  sz : ∀ x ∈ ns, Sz 600 x
theorem Row.pos {ns : List Int} (h : Row ns) : (1 : Int) ≤ ns.length := by have := List.length_pos_iff.mpr h.ne; omega
theorem Row.le' {ns : List Int} (h : Row ns) : (ns.length : Int) ≤ 4 := by have := h.le; omega
theorem Row.line {ns : List Int} (h : Row ns) : ns.length ≤ sizeLine := Nat.le_trans h.le (by decide)
theorem e_is_row {ns : List Int} (h : Row ns) : m_is_row [rowD ns] = .ok (.bl true) := by
  have hq : q1_is_row [.val (rowD ns), .un] = .ok (ns.map fun _ => D.bl true) [.val (rowD ns), .un] := by
    unfold q1_is_row
    simp
    rw [lcM_map D.int ns (fun _ => .bl true) rfl h.line fun x hx => by simp [turnM, e1_is_row, e_is_integer (h.sz x hx)]]
    rfl
  unfold m_is_row b_is_row runF
  simp [c_WIDEST, h.pos, h.le', hq]
theorem e_require {ns : List Int} (h : Row ns) : m_require_row [rowD ns, .non] = .ok .non := by
  unfold m_require_row b_require_row runF
  simp [e_is_row h]
theorem e_requireW {ns : List Int} {k : Nat} (h : Row ns) (hk : k = ns.length) : m_require_row [rowD ns, .int k] = .ok .non := by
  unfold m_require_row b_require_row runF
  subst hk
  simp [e_is_row h]
/-- the sum of products -/
def dot (xs ys : List Int) : Int := (xs.zipWith (· * ·) ys).sum
theorem dot_comm (xs ys : List Int) : dot xs ys = dot ys xs := by
  unfold dot
  rw [List.zipWith_comm]
  congr 2
  funext a b
  exact Int.mul_comm _ _
theorem mem_zipW {α β γ : Type} {f : α → β → γ} : ∀ {xs : List α} {ys : List β} {z : γ}, z ∈ xs.zipWith f ys → ∃ x ∈ xs, ∃ y ∈ ys, f x y = z
  | [], ys, z, h => by simp at h
  | x :: xs, [], z, h => by simp at h
  | x :: xs, y :: ys, z, h => by
    rw [List.zipWith_cons_cons] at h
    rcases List.mem_cons.mp h with e | e
    · exact ⟨x, List.mem_cons_self .., y, List.mem_cons_self .., e.symm⟩
    · obtain ⟨a, ha, b, hb, e⟩ := mem_zipW e
      exact ⟨a, List.mem_cons_of_mem _ ha, b, List.mem_cons_of_mem _ hb, e⟩
/-- x + y, number by number -/
def addR (xs ys : List Int) : List Int := xs.zipWith (· + ·) ys
def mulR (n : Int) (xs : List Int) : List Int := xs.map (n * ·)
theorem dot_add : ∀ (xs ys zs : List Int), xs.length = zs.length → ys.length = zs.length → dot (addR xs ys) zs = dot xs zs + dot ys zs
  | [], ys, zs, h, h' => by
    have : zs = [] := List.eq_nil_of_length_eq_zero h.symm
    subst this
    have : ys = [] := List.eq_nil_of_length_eq_zero h'
    subst this
    rfl
  | x :: xs, [], zs, h, h' => by rw [← h'] at h; simp at h
  | x :: xs, y :: ys, [], h, h' => by simp at h
  | x :: xs, y :: ys, z :: zs, h, h' => by
    have ih := dot_add xs ys zs (by simpa using h) (by simpa using h')
    unfold dot addR at *
    simp only [List.zipWith_cons_cons, List.sum_cons] at *
    rw [ih, Int.add_mul]
    omega
theorem dot_mul (n : Int) : ∀ (xs zs : List Int), dot (mulR n xs) zs = n * dot xs zs
  | [], zs => by simp [dot, mulR]
  | x :: xs, [] => by simp [dot, mulR]
  | x :: xs, z :: zs => by
    have ih := dot_mul n xs zs
    unfold dot mulR at *
    simp only [List.map_cons, List.zipWith_cons_cons, List.sum_cons] at *
    rw [ih, Int.mul_add, Int.mul_assoc]
theorem dot_addr (xs ys zs : List Int) (h : xs.length = zs.length) (h' : ys.length = zs.length) : dot zs (addR xs ys) = dot zs xs + dot zs ys := by
  rw [dot_comm zs, dot_add xs ys zs h h', dot_comm zs xs, dot_comm zs ys]
theorem dot_mulr (n : Int) (xs zs : List Int) : dot zs (mulR n xs) = n * dot zs xs := by rw [dot_comm zs, dot_mul, dot_comm zs xs]
theorem dot_sz {a b k : Nat} {xs ys : List Int} (h : ∀ x ∈ xs, Sz a x) (h' : ∀ y ∈ ys, Sz b y) (l : xs.length ≤ 2 ^ k) : Sz (a + b + k) (dot xs ys) := by
  unfold dot
  refine Sz.sum (fun z hz => ?_) ?_
  · obtain ⟨x, hx, y, hy, rfl⟩ := mem_zipW hz
    exact (h x hx).mul (h' y hy)
  · rw [List.length_zipWith]
    omega
theorem addR_sz {a b : Nat} {xs ys : List Int} (h : ∀ x ∈ xs, Sz a x) (h' : ∀ y ∈ ys, Sz b y) : ∀ z ∈ addR xs ys, Sz (max a b + 1) z := fun z hz => by
  obtain ⟨x, hx, y, hy, rfl⟩ := mem_zipW hz
  exact (h x hx).add (h' y hy)
theorem mulR_sz {a b : Nat} {n : Int} {xs : List Int} (hn : Sz a n) (h : ∀ x ∈ xs, Sz b x) : ∀ z ∈ mulR n xs, Sz (a + b) z := fun z hz => by
  obtain ⟨x, hx, rfl⟩ := List.mem_map.mp hz
  exact hn.mul (h x hx)
@[simp] theorem addR_len {xs ys : List Int} : (addR xs ys).length = min xs.length ys.length := by unfold addR; exact List.length_zipWith
@[simp] theorem mulR_len {n : Int} {xs : List Int} : (mulR n xs).length = xs.length := by unfold mulR; exact List.length_map _
@[simp] theorem zip_rowD {xs ys : List Int} : zipMD [rowD xs, rowD ys] = .ok (xs.zipWith (fun x y => .tup [.int x, .int y]) ys) := by
  show FR.ok ((xs.map D.int).zipWith (fun x y => D.tup [x, y]) (ys.map D.int)) = _
  rw [List.zipWith_map]
@[simp] theorem zip_lrow {xs ys : List Int} : zipMD [.lst (xs.map .int), rowD ys] = .ok (xs.zipWith (fun x y => .tup [.int x, .int y]) ys) := by
  show FR.ok ((xs.map D.int).zipWith (fun x y => D.tup [x, y]) (ys.map D.int)) = _
  rw [List.zipWith_map]
theorem e_value_by {a b : Nat} {xs ys : List Int} (hx : xs.length ≤ 1000) (h : ∀ x ∈ xs, Sz a x) (h' : ∀ y ∈ ys, Sz b y) (hab : a + b ≤ 134217728) : m_value_by [rowD xs, rowD ys] = .ok (.int (dot xs ys)) := by
  unfold m_value_by b_value_by runF q1_value_by
  simp
  rw [lcM_zip xs ys (fun x y => .int (x * y)) rfl (by rw [sizeLine_eq]; omega) fun x hx y hy => by simp [turnM, e1_value_by, op_mulI ((h _ hx).mulOk (h' _ hy) hab)]]
  simp
  rfl
theorem e_value_of {a b : Nat} {xs ys : List Int} (h : Row xs) (h' : Row ys) (e : xs.length = ys.length) : m_value_of [rowD xs, rowD ys] = .ok (.int (dot xs ys)) := by
  unfold m_value_of b_value_of runF
  simp [e_require h, e_is_row h', e, e_value_by (Nat.le_trans h.le (by decide)) h.sz h'.sz (by decide)]
theorem e_amount {a b : Nat} {xs ys : List Int} (hx : xs.length ≤ 1000) (h : ∀ x ∈ xs, Sz a x) (h' : ∀ y ∈ ys, Sz b y) (hab : a + b ≤ 134217728) : m__law_amount [rowD xs, rowD ys] = .ok (.int (dot xs ys)) := e_value_by hx h h' hab
theorem e_added {xs ys : List Int} (h : Row xs) (h' : Row ys) (e : xs.length = ys.length) : m_added [rowD xs, rowD ys] = .ok (rowD (addR xs ys)) := by
  unfold m_added b_added runF q1_added
  simp [e_require h, e_requireW h' e]
  rw [lcM_zip xs ys (fun x y => .int (x + y)) rfl (Nat.le_trans h.le (by decide)) fun x hx y hy => by simp [turnM, e1_added]]
  simp [rowD, addR, List.map_zipWith]
theorem e_scaled {xs : List Int} {n : Int} (h : Row xs) (hn : Sz 600 n) : m_scaled [rowD xs, .int n] = .ok (rowD (mulR n xs)) := by
  unfold m_scaled b_scaled runF q1_scaled
  simp [e_require h, e_is_integer hn]
  rw [lcM_map D.int xs (fun x => .int (n * x)) rfl h.line fun x hx => by simp [turnM, e1_scaled, op_mulI (hn.mulOk (h.sz x hx) (by decide))]]
  simp [rowD, mulR]
end Pm
/-! LD: draws. -/
namespace Pm
open PySem PySem.Spec PyProof.Rows L2 Mr
theorem e_bowl {ns : List Int} {k : Nat} (hk : k < 64) : ∃ xs, m__law_bowl [.frz (ns.map .int), .int k] = .ok xs ∧ Bowl 0 xs := E_bowl hk
theorem e_bitZ {xs : List D} {n : Nat} {m : Int} (h : Bowl n xs) (hm : 0 < m) (hs : Sz 9000 m) (hn : n < 1000000) : ∃ (k : Int) (ys : List D), m__law_bit (.own true xs) [.int m] = .ok (.int k) (.own true ys) ∧ 0 ≤ k ∧ k < m ∧ Bowl (n + 1) ys := E_bit h hm hs hn
theorem e_bit {xs : List D} {n : Nat} {m : Int} (h : Bowl n xs) (hm : 0 < m) (hs : m < 1000000000) (hn : n < 1000000) : ∃ (k : Nat) (ys : List D), m__law_bit (.own true xs) [.int m] = .ok (.int k) (.own true ys) ∧ (k : Int) < m ∧ Bowl (n + 1) ys := by
  obtain ⟨k, ys, e, k0, k1, h'⟩ := E_bit h hm ((sz_small (by omega) (by omega)).mono (by decide)) hn
  obtain ⟨j, rfl⟩ : ∃ j : Nat, k = (j : Int) := ⟨k.toNat, by omega⟩
  exact ⟨j, ys, e, k1, h'⟩
/-- a list of draws: the other slots stay as they are -/
theorem draw_list {vs : List Nat} {t : Tg} {el : M D} {rest : Ro} {P : D → Prop} {cost : Nat} (ds : List D) (xs : List D) (b : Nat) (hB : Bowl b xs) (hpl : ∀ xs, plainR (.own true xs :: rest) vs = true) (small : ds.length < 1000000)
    (h : ∀ d ∈ ds, ∀ xs b', b' + cost ≤ b + cost * ds.length → Bowl b' xs → ∃ y ys, turnM vs t el (.own true xs :: rest) d = .ok y (.own true ys :: rest) ∧ P y ∧ Bowl (b' + cost) ys) :
    ∃ l ys, lcM vs t tYesM el ds [] (.own true xs :: rest) = .ok l (.own true ys :: rest) ∧ l.length = ds.length ∧ (∀ y ∈ l, P y) ∧ Bowl (b + cost * ds.length) ys := by
  obtain ⟨ys, ρ', e, ⟨zs, rfl, hz⟩, l, p⟩ := lcM_run2 (vs := vs) (t := t) (el := el) (I := fun j ρ => ∃ ys, ρ = .own true ys :: rest ∧ Bowl (b + cost * j) ys) (P := P) ds [] 0 (.own true xs :: rest) (by simp [sizeLine_eq]; omega) ⟨xs, rfl, by simpa using hB⟩
    (fun d hd j ρ h0 h1 hI => by
      obtain ⟨zs, rfl, hz⟩ := hI
      refine ⟨hpl _, ?_⟩
      have hj : j + 1 ≤ ds.length := by omega
      have hc : cost * (j + 1) ≤ cost * ds.length := Nat.mul_le_mul_left _ hj
      rw [Nat.mul_add, Nat.mul_one] at hc
      obtain ⟨y, ys, e, py, hy⟩ := h d hd zs (b + cost * j) (by omega) hz
      exact ⟨y, _, e, ⟨ys, rfl, by rw [Nat.mul_add, Nat.mul_one, ← Nat.add_assoc]; exact hy⟩, py⟩)
  rw [Nat.zero_add] at hz
  exact ⟨ys, zs, by simpa using e, l, p, hz⟩
theorem rangeN (n : Nat) (h : n ≤ 1000000000) : range1D [.int (n : Int)] = .ok ((List.range n).map fun (k : Nat) => .int k) := by
  have := range1_of (i := (n : Int)) (by omega) (by omega)
  rwa [Int.toNat_natCast] at this
theorem rangeZ {i : Int} {n : Nat} (e : i = (n : Int)) (h : n ≤ 1000000000) : range1D [.int i] = .ok ((List.range n).map fun (k : Nat) => .int k) := by rw [e]; exact rangeN n h
theorem e_pickL {xs ds : List D} {b : Nat} (h : Bowl b xs) (h0 : ds ≠ []) (hl : ds.length < 1000000) (hb : b < 1000000) :
    ∃ d ys, d ∈ ds ∧ m__law_pick (.own true xs) [.lst ds] = .ok d (.own true ys) ∧ Bowl (b + 1) ys := by
  have l0 := List.length_pos_iff.mpr h0
  obtain ⟨k, ys, e, hk, h'⟩ := e_bit h (m := ds.length) (by omega) (by omega) hb
  have hk : k < ds.length := by omega
  have g : ds[k]? = some ds[k] := List.getElem?_eq_getElem hk
  refine ⟨ds[k], ys, List.getElem_mem hk, ?_, h'⟩
  unfold m__law_pick b__law_pick runI
  simp [e, ixD_lst g]
theorem e_pickT {xs ds : List D} {b : Nat} (h : Bowl b xs) (h0 : ds ≠ []) (hl : ds.length < 1000000) (hb : b < 1000000) :
    ∃ d ys, d ∈ ds ∧ m__law_pick (.own true xs) [.tup ds] = .ok d (.own true ys) ∧ Bowl (b + 1) ys := by
  have l0 := List.length_pos_iff.mpr h0
  obtain ⟨k, ys, e, hk, h'⟩ := e_bit h (m := ds.length) (by omega) (by omega) hb
  have hk : k < ds.length := by omega
  have g : ds[k]? = some ds[k] := List.getElem?_eq_getElem hk
  refine ⟨ds[k], ys, List.getElem_mem hk, ?_, h'⟩
  unfold m__law_pick b__law_pick runI
  simp [e, ixD_tup g]
/-- a pick of written items -/
theorem e_pickM {α : Type} {xs : List D} {b : Nat} (g : α → D) (l : List α) (h : Bowl b xs) (h0 : l ≠ []) (hl : l.length < 1000000) (hb : b < 1000000) :
    ∃ a ys, a ∈ l ∧ m__law_pick (.own true xs) [.lst (l.map g)] = .ok (g a) (.own true ys) ∧ Bowl (b + 1) ys := by
  obtain ⟨d, ys, hd, e, hy⟩ := e_pickL (ds := l.map g) h (by simpa using h0) (by simpa using hl) hb
  obtain ⟨a, ha, rfl⟩ := List.mem_map.mp hd
  exact ⟨a, ys, ha, e, hy⟩
/-- -M to M -/
theorem e_smallZ {xs : List D} {b : Nat} {M : Int} (h : Bowl b xs) (hM : 1 ≤ M) (hM2 : Sz 8000 M) (hb : b < 900000) : ∃ (k : Int) (ys : List D), m__law_small (.own true xs) [.int M] = .ok (.int k) (.own true ys) ∧ -M ≤ k ∧ k ≤ M ∧ Bowl (b + 2) ys := by
  obtain ⟨lot, x1, e1, l1, b1⟩ := e_bit h (m := 4) (by decide) (by decide) (by omega)
  by_cases hl : (lot : Int) < 2
  · refine ⟨lot, x1, ?_, by omega, by omega, b1.mono (by omega)⟩
    unfold m__law_small b__law_small runI
    simp [e1, hl]
  · have m1 : mulOk 2 M := mulOkS (a := 64) (sz_small (by decide) (by decide)) hM2
    have s2 : Sz 9000 (2 * M + 1) := by
      have := (hM2.add hM2).add (Sz.one)
      rw [show M + M + 1 = 2 * M + 1 by omega] at this
      exact this.mono (by decide)
    obtain ⟨k, x2, e2, k0, k1, b2⟩ := e_bitZ b1 (m := 2 * M + 1) (by omega) s2 (by omega)
    refine ⟨k - M, x2, ?_, by omega, by omega, b2⟩
    unfold m__law_small b__law_small runI
    simp [e1, hl, op_mulI m1, e2]
def small (M : Int) (r : List Int) : Prop := ∀ x ∈ r, -M ≤ x ∧ x ≤ M
theorem small.sz {M : Int} {a : Nat} {r : List Int} (h : small M r) (hM : Sz a M) : ∀ x ∈ r, Sz a x := fun x hx => hM.of_abs (by have := h x hx; omega)
theorem small.mono {M N : Int} {r : List Int} (h : small M r) (l : M ≤ N) : small N r := fun x hx => by have := h x hx; omega
theorem small.append {M : Int} {r q : List Int} (h : small M r) (h' : small M q) : small M (r ++ q) := fun x hx => (List.mem_append.mp hx).elim (h x) (h' x)
theorem line_core {xs zs : List D} {ks : List Int} {L : List D} {n M : Int} (rn : range1D [.int n] = .ok L)
    (e : lcM [3] (.sl 3) tYesM e1__law_line L [] [.own true xs, .val (.int n), .val (.int M), .un] = .ok (ks.map .int) [.own true zs, .val (.int n), .val (.int M), .un]) :
    m__law_line (.own true xs) [.int n, .int M] = .ok (rowD ks) (.own true zs) := by
  unfold m__law_line b__law_line q1__law_line runI
  simp [rn, e, rowD]
theorem e_lineZ {xs : List D} {b n : Nat} {M : Int} (h : Bowl b xs) (hM : 1 ≤ M) (hM2 : Sz 8000 M) (hb : b + 2 * n < 900000) : ∃ (r : List Int) (ys : List D), m__law_line (.own true xs) [.int n, .int M] = .ok (rowD r) (.own true ys) ∧ r.length = n ∧ small M r ∧ Bowl (b + 2 * n) ys := by
  obtain ⟨l, zs, e, hl, hp, hz⟩ := draw_list (vs := [3]) (t := .sl 3) (el := e1__law_line) (rest := [.val (.int n), .val (.int M), .un]) (P := fun y => ∃ k, y = .int k ∧ (-M ≤ k ∧ k ≤ M)) (cost := 2) ((List.range n).map fun (k : Nat) => D.int k) xs b h (fun _ => rfl) (by simp; omega)
    (fun d hd zs b' hb' hz => by
      rw [List.length_map, List.length_range] at hb'
      obtain ⟨k, ys, e, s1, s2, hy⟩ := e_smallZ hz hM hM2 (by omega)
      exact ⟨.int k, ys, by simp [turnM, e1__law_line, e], ⟨k, rfl, s1, s2⟩, hy⟩)
  obtain ⟨ks, rfl, hk⟩ := ints_of hp
  rw [List.length_map, List.length_map, List.length_range] at hl
  rw [List.length_map, List.length_range] at hz
  exact ⟨ks, zs, line_core (rangeN n (by omega)) e, hl, hk, hz⟩
theorem e_line {xs : List D} {b n M : Nat} (h : Bowl b xs) (hM : 1 ≤ M) (hM2 : M < 1000) (hb : b + 2 * n < 900000) : ∃ (r : List Int) (ys : List D), m__law_line (.own true xs) [.int n, .int M] = .ok (rowD r) (.own true ys) ∧ r.length = n ∧ small M r ∧ Bowl (b + 2 * n) ys :=
  e_lineZ h (by omega) ((sz_small (by omega) (by omega)).mono (by decide)) hb
theorem zero_row : ∀ n : Nat, (List.replicate n [D.int 0]).flatten = List.replicate n (D.int 0)
  | 0 => rfl
  | n + 1 => by rw [List.replicate_succ, List.flatten_cons, zero_row n]; rfl
theorem mul_zero {n : Nat} (h4 : n ≤ 1000) : mulD (.tup [.int 0]) (.int n) = .ok (rowD (List.replicate n 0)) := by
  have e : rowD (List.replicate n 0) = .tup (List.replicate n (.int 0)) := by unfold rowD; rw [List.map_replicate]
  rw [e]
  show (if (n : Int) = 1 then FR.ok (D.tup [.int 0]) else if _ then _ else if _ then FR.ok (D.tup (List.replicate (n : Int).toNat [D.int 0]).flatten) else .stuck) = _
  by_cases q : n = 1
  · subst q; rfl
  · rw [if_neg (by omega)]
    by_cases q0 : n = 0
    · subst q0; rw [if_pos ⟨by simp, by omega, by omega⟩]; rfl
    · rw [if_neg (by simp; omega), if_pos ⟨by simp, by omega, by omega, by simp⟩, Int.toNat_natCast, zero_row]
theorem mul_zeroZ {i : Int} {n : Nat} (e : i = n) (h4 : n ≤ 1000) : mulD (.tup [.int 0]) (.int i) = .ok (rowD (List.replicate n 0)) := by rw [e]; exact mul_zero h4
/-! ### dealt -/
theorem deal_core {xs ys waits : List D} {it : SV} {t d : D} {k : Nat} (e : m__law_bit (.own true xs) [.int waits.length] = .ok (.int k) (.own true ys)) (hk : k < waits.length) (hl : waits.length < 1000000) (hs : seqIndex? (k : Int) waits.length = some k) (hd : waits[k]? = some d) :
    turnO [3] (.sl 3) tYesM e1__law_dealt [.own true xs, it, .own false waits, .un] t = .ok (some d) [.own true ys, it, .own false (waits.eraseIdx k), .un] := by
  have h1 : I63 (k : Int) := ⟨by omega, by omega⟩
  simp [turnO, e1__law_dealt, e, hs, hd, h1]
theorem erase_perm {α : Type} : ∀ {l : List α} {k : Nat} (h : k < l.length), List.Perm (l[k] :: l.eraseIdx k) l
  | a :: l, 0, _ => List.Perm.refl _
  | a :: l, k + 1, h => by
    have h' : k < l.length := by simpa using h
    have ih := erase_perm (l := l) (k := k) h'
    exact (List.Perm.swap a l[k] (l.eraseIdx k)).trans (.cons a ih)
theorem deal_run {it : SV} : ∀ (ts : List D) (waits acc xs : List D) (b : Nat), ts.length = waits.length → Bowl b xs → b + ts.length < 1000000 → acc.length + ts.length < 1000000 →
    ∃ ys zs, lcM [3] (.sl 3) tYesM e1__law_dealt ts acc [.own true xs, it, .own false waits, .un] = .ok (acc ++ ys) [.own true zs, it, .own false [], .un] ∧ List.Perm ys waits ∧ Bowl (b + ts.length) zs
  | [], waits, acc, xs, b, hl, hb, _, _ => by
    have e : waits = [] := List.eq_nil_of_length_eq_zero hl.symm
    subst e
    exact ⟨[], xs, by simp [lcM], .nil, hb⟩
  | t :: ts, waits, acc, xs, b, hl, hb, h1, h2 => by
    rw [List.length_cons] at hl h1 h2
    obtain ⟨k, ys, e, hk, hb'⟩ := e_bit hb (m := waits.length) (by omega) (by omega) (by omega)
    have hk : k < waits.length := by omega
    have hd : waits[k]? = some waits[k] := List.getElem?_eq_getElem hk
    have hs : seqIndex? (k : Int) waits.length = some k := by
      have := seqIndex_of (n := waits.length) (k := (k : Int)) (by omega) (by omega)
      simpa using this
    have st := deal_core (it := it) (t := t) e hk (by omega) hs hd
    have le : (waits.eraseIdx k).length = waits.length - 1 := List.length_eraseIdx_of_lt hk
    obtain ⟨zs, us, f, p, hz⟩ := deal_run ts (waits.eraseIdx k) (acc ++ [waits[k]]) ys (b + 1) (by omega) hb' (by omega) (by rw [List.length_append, List.length_singleton]; omega)
    refine ⟨waits[k] :: zs, us, ?_, ?_, by rw [List.length_cons, show b + (ts.length + 1) = b + 1 + ts.length by omega]; exact hz⟩
    · have hsz : acc.length < sizeLine := by rw [sizeLine_eq]; omega
      rw [lcM_step rfl hsz st]
      show lcM _ _ _ _ ts (acc ++ [waits[k]]) _ = _
      rw [f]
      simp
    · exact (List.Perm.cons _ p).trans (erase_perm hk)
theorem dealt_coreL {xs zs ds ys L : List D} {len : Int} (hl : lenD [.lst ds] = .ok (.int len)) (rn : range1D [.int len] = .ok L)
    (e : lcM [3] (.sl 3) tYesM e1__law_dealt L [] [.own true xs, .val (.lst ds), .own false ds, .un] = .ok ys [.own true zs, .val (.lst ds), .own false [], .un]) :
    m__law_dealt (.own true xs) [.lst ds] = .ok (.lst ys) (.own true zs) := by
  unfold m__law_dealt b__law_dealt q1__law_dealt runI
  simp [-op_lenL, hl, rn, e]
theorem dealt_coreT {xs zs ds ys L : List D} {len : Int} (hl : lenD [.tup ds] = .ok (.int len)) (rn : range1D [.int len] = .ok L)
    (e : lcM [3] (.sl 3) tYesM e1__law_dealt L [] [.own true xs, .val (.tup ds), .own false ds, .un] = .ok ys [.own true zs, .val (.tup ds), .own false [], .un]) :
    m__law_dealt (.own true xs) [.tup ds] = .ok (.lst ys) (.own true zs) := by
  unfold m__law_dealt b__law_dealt q1__law_dealt runI
  simp [-op_lenT, hl, rn, e]
theorem e_dealtL {xs ds : List D} {b : Nat} (h : Bowl b xs) (hl : ds.length < 100000) (hb : b < 800000) :
    ∃ ys zs, m__law_dealt (.own true xs) [.lst ds] = .ok (.lst ys) (.own true zs) ∧ List.Perm ys ds ∧ Bowl (b + ds.length) zs := by
  obtain ⟨ys, zs, e, p, hz⟩ := deal_run (it := .val (.lst ds)) ((List.range ds.length).map fun (k : Nat) => D.int k) ds [] xs b (by simp) h (by simp; omega) (by simp; omega)
  rw [List.nil_append] at e
  rw [List.length_map, List.length_range] at hz
  exact ⟨ys, zs, dealt_coreL op_lenL (rangeN _ (by omega)) e, p, hz⟩
theorem e_dealtT {xs ds : List D} {b : Nat} (h : Bowl b xs) (hl : ds.length < 100000) (hb : b < 800000) :
    ∃ ys zs, m__law_dealt (.own true xs) [.tup ds] = .ok (.lst ys) (.own true zs) ∧ List.Perm ys ds ∧ Bowl (b + ds.length) zs := by
  obtain ⟨ys, zs, e, p, hz⟩ := deal_run (it := .val (.tup ds)) ((List.range ds.length).map fun (k : Nat) => D.int k) ds [] xs b (by simp) h (by simp; omega) (by simp; omega)
  rw [List.nil_append] at e
  rw [List.length_map, List.length_range] at hz
  exact ⟨ys, zs, dealt_coreT op_lenT (rangeN _ (by omega)) e, p, hz⟩
theorem perm_map {α β : Type} {f : α → β} : ∀ {l : List α} {ys : List β}, List.Perm ys (l.map f) → ∃ l', ys = l'.map f ∧ List.Perm l' l := by
  intro l ys h
  generalize hm : l.map f = ms at h
  induction h generalizing l with
  | nil => exact ⟨[], rfl, by simp [List.map_eq_nil_iff.mp hm]⟩
  | cons x p ih =>
    obtain ⟨a, l1, rfl, rfl, e⟩ := List.map_eq_cons_iff.mp hm
    obtain ⟨l', e1, e2⟩ := ih e
    exact ⟨a :: l', by rw [e1]; rfl, .cons _ e2⟩
  | swap x y l2 =>
    obtain ⟨a, l1, rfl, rfl, e⟩ := List.map_eq_cons_iff.mp hm
    obtain ⟨b, l3, rfl, rfl, e'⟩ := List.map_eq_cons_iff.mp e
    exact ⟨b :: a :: l3, by rw [← e']; rfl, .swap _ _ _⟩
  | trans p1 p2 ih1 ih2 =>
    obtain ⟨l', e1, e2⟩ := ih2 hm
    obtain ⟨l'', e3, e4⟩ := ih1 e1.symm
    exact ⟨l'', e3, e4.trans e2⟩
/-- data of a kind -/
theorem map_of {α : Type} (g : α → D) {p : α → Prop} : ∀ {ys : List D}, (∀ y ∈ ys, ∃ s, y = g s ∧ p s) → ∃ ss : List α, ys = ss.map g ∧ ∀ s ∈ ss, p s
  | [], _ => ⟨[], rfl, by simp⟩
  | y :: ys, h => by
    obtain ⟨k, e, q⟩ := h y (List.mem_cons_self ..)
    obtain ⟨ks, e2, q2⟩ := map_of g fun z hz => h z (List.mem_cons_of_mem _ hz)
    exact ⟨k :: ks, by rw [e, e2]; rfl, fun z hz => by
      rcases List.mem_cons.mp hz with e | e
      · rw [e]; exact q
      · exact q2 z e⟩
theorem cut_take {xs : List D} {k : Nat} : Mr.cutD xs none (some (k : Int)) = xs.take k := by
  unfold Mr.cutD
  have h0 : HT.sIx xs.length 0 none = 0 := rfl
  have h1 : HT.sIx xs.length xs.length (some (k : Int)) = min k xs.length := HT.sIx_nat xs.length xs.length k
  rw [h0, h1, List.drop_zero, Nat.sub_zero]
  rcases Nat.le_total k xs.length with h | h
  · rw [Nat.min_eq_left h]
  · rw [Nat.min_eq_right h, List.take_of_length_le (Nat.le_refl _), List.take_of_length_le h]
theorem cut_drop {xs : List D} {k : Nat} : Mr.cutD xs (some (k : Int)) none = xs.drop k := by
  unfold Mr.cutD
  have h1 : HT.sIx xs.length 0 (some (k : Int)) = min k xs.length := HT.sIx_nat xs.length 0 k
  have h0 : HT.sIx xs.length xs.length none = xs.length := rfl
  rw [h0, h1]
  rcases Nat.le_total k xs.length with h | h
  · rw [Nat.min_eq_left h, List.take_of_length_le (by simp)]
  · rw [Nat.min_eq_right h, List.drop_eq_nil_of_le (Nat.le_refl _), List.drop_eq_nil_of_le h, List.take_nil]
end Pm
/-! LR: reprs. -/
namespace Pm
open PySem PySem.Spec PyProof.Rows L2 Mr
theorem pys_map : ∀ (xs : List D), pys xs = xs.map py
  | [] => rfl
  | x :: xs => by rw [pys, pys_map xs]; rfl
theorem piled_le (W : Nat) : ∀ ts : List Str, (∀ t ∈ ts, t.length ≤ W) → piled ts ≤ ts.length * (W + 2)
  | [], _ => by simp [piled]
  | t :: ts, h => by
    have h1 := h t (List.mem_cons_self ..)
    have ih := piled_le W ts fun u hu => h u (List.mem_cons_of_mem _ hu)
    rw [piled_cons, List.length_cons, Nat.add_mul, Nat.one_mul]
    omega
theorem join_le (W : Nat) (ts : List Str) (h : ∀ t ∈ ts, t.length ≤ W) : (Str.join ", " ts).length ≤ ts.length * (W + 2) := by
  by_cases e : ts = []
  · subst e; show (Str.empty).length ≤ _; exact Nat.zero_le _
  · have h1 := join_length_add ts e
    have h2 := piled_le W ts h
    omega
theorem shown_all (xs : List D) : PyData.shownAll (pys xs) = xs.map fun x => (py x).shown := by
  induction xs with
  | nil => rfl
  | cons x xs ih => rw [pys, PyData.shownAll_cons, ih]; rfl
/-- its text has at most W signs -/
def ShW (W : Nat) (d : D) : Prop := (py d).shown.length ≤ W ∧ (py d).showable = true
theorem ShW.mono {W V : Nat} {d : D} (h : ShW W d) (l : W ≤ V) : ShW V d := ⟨Nat.le_trans h.1 l, h.2⟩
theorem sh_int {i : Int} (h : Sz 1900 i) : ShW 1921 (.int i) := by
  have hl : i.natAbs.log2 < 1920 := by
    by_cases z : i.natAbs = 0
    · rw [z]; decide
    · exact Nat.lt_of_lt_of_le ((Nat.log2_lt z).mpr h) (by decide)
  refine ⟨?_, ?_⟩
  · show ((PyData.int i).shown).length ≤ _
    rw [PyData.shown_int]
    exact int_text_len_1921 hl
  · show PyData.showable (.int i) = true
    simp only [PyData.showable]
    exact decide_eq_true hl
theorem showableAll_map {xs : List D} (h : ∀ x ∈ xs, (py x).showable = true) : PyData.showableAll (pys xs) = true := by
  induction xs with
  | nil => rfl
  | cons x xs ih =>
    rw [pys, PyData.showableAll, h x (List.mem_cons_self ..), ih fun y hy => h y (List.mem_cons_of_mem _ hy)]; rfl
theorem sh_tup {W : Nat} {xs : List D} (h : ∀ x ∈ xs, ShW W x) : ShW (xs.length * (W + 2) + 4) (.tup xs) := by
  refine ⟨?_, ?_⟩
  · show ((PyData.tuple (pys xs)).shown).length ≤ _
    rw [PyData.shown_tuple, shown_all, Str.length_append, Str.length_append]
    have h1 := join_le W (xs.map fun x => (py x).shown) fun t ht => by
      obtain ⟨x, hx, rfl⟩ := List.mem_map.mp ht
      exact (h x hx).1
    rw [List.length_map] at h1
    have e1 : (("(" : Str)).length = 1 := rfl
    have e2 : (((if (pys xs).length == 1 then ",)" else ")" : String) : Str)).length ≤ 2 := by split <;> decide
    omega
  · show PyData.showable (.tuple (pys xs)) = true
    simp only [PyData.showable]
    exact showableAll_map fun x hx => (h x hx).2
theorem sh_lst {W : Nat} {xs : List D} (h : ∀ x ∈ xs, ShW W x) : ShW (xs.length * (W + 2) + 4) (.lst xs) := by
  refine ⟨?_, ?_⟩
  · show ((PyData.list (pys xs)).shown).length ≤ _
    rw [PyData.shown_list, shown_all, Str.length_append, Str.length_append]
    have h1 := join_le W (xs.map fun x => (py x).shown) fun t ht => by
      obtain ⟨x, hx, rfl⟩ := List.mem_map.mp ht
      exact (h x hx).1
    rw [List.length_map] at h1
    have e1 : (("[" : Str)).length = 1 := rfl
    have e2 : (("]" : Str)).length = 1 := rfl
    omega
  · show PyData.showable (.list (pys xs)) = true
    simp only [PyData.showable]
    exact showableAll_map fun x hx => (h x hx).2
theorem sh_row {r : List Int} (h : ∀ x ∈ r, Sz 1900 x) : ShW (r.length * 1923 + 4) (rowD r) := by
  have := sh_tup (W := 1921) (xs := r.map .int) fun x hx => by
    obtain ⟨i, hi, rfl⟩ := List.mem_map.mp hx
    exact sh_int (h i hi)
  rw [List.length_map] at this
  exact this
theorem e_repr {d : D} {W : Nat} (h : ShW W d) (hk : okD 12 d = true) (hW : W ≤ 16000000) : reprD [d] = .ok (.str (py d).shown) := by
  show (if _ then _ else _) = _
  rw [if_pos ⟨hk, h.2, by rw [sizeLine_eq]; have := h.1; omega⟩]
theorem e_repr_row {r : List Int} (h : ∀ x ∈ r, Sz 1900 x) (hl : r.length ≤ 100) : reprD [rowD r] = .ok (.str (py (rowD r)).shown) := e_repr (sh_row h) (by simp) (by omega)
/-- equal data have equal texts -/
@[simp] theorem ne_str_self {s : Str} : neD (.str s) (.str s) = .ok (.bl false) := op_neS (by simp)
end Pm
/-! LL: loops made. -/
namespace Pm
open PySem PySem.Spec PyProof.Rows L2 Mr
theorem lcM_all {vs : List Nat} {t : Tg} {el : M D} {ρ : Ro} {y : D} (ds : List D) (hp : plainR ρ vs = true) (hl : ds.length ≤ 1000000) (h : ∀ d ∈ ds, turnM vs t el ρ d = .ok y ρ) : lcM vs t tYesM el ds [] ρ = .ok (List.replicate ds.length y) ρ := by
  have := lcM_map (vs := vs) (t := t) (el := el) (fun d : D => d) ds (fun _ => y) hp (by rw [sizeLine_eq]; omega) h
  rw [List.map_id'] at this
  rw [this, List.map_const']
@[simp] theorem all_rep {n : Nat} : allD [.lst (List.replicate n (.bl true))] = .ok (.bl true) := by
  have : List.replicate n (D.bl true) = (List.replicate n true).map D.bl := by rw [List.map_replicate]
  rw [this, op_all]
  congr 2
  simp
/-! ### forms -/
theorem e_is_form {r : List Int} {w : Int} (h : ∀ x ∈ r, Sz 600 x) (hl : r.length ≤ 1000) : m_is_form [rowD r, .int w] = .ok (.bl (decide ((r.length : Int) = w))) := by
  have hq : q1_is_form [.val (rowD r), .val (.int w), .un] = .ok (List.replicate r.length (.bl true)) [.val (rowD r), .val (.int w), .un] := by
    unfold q1_is_form
    simp
    rw [lcM_all (y := .bl true) _ rfl (by simp; omega) fun d hd => by
      obtain ⟨x, hx, rfl⟩ := List.mem_map.mp hd
      simp [turnM, e1_is_form, e_is_integer (h x hx)]]
    simp
  unfold m_is_form b_is_form runF
  by_cases e : (r.length : Int) = w
  · simp [e, hq]
  · simp [e]
theorem e_is_small {r : List Int} {w M : Int} (h : small M r) (hM : Sz 600 M) (hl : r.length ≤ 1000) : m_is_small_form [rowD r, .int w, .int M] = .ok (.bl (decide ((r.length : Int) = w))) := by
  have hq : q1_is_small_form [.val (rowD r), .val (.int w), .val (.int M), .un] = .ok (List.replicate r.length (.bl true)) [.val (rowD r), .val (.int w), .val (.int M), .un] := by
    unfold q1_is_small_form
    simp
    rw [lcM_all (y := .bl true) _ rfl (by simp; omega) fun d hd => by
      obtain ⟨x, hx, rfl⟩ := List.mem_map.mp hd
      have := h x hx
      simp [turnM, e1_is_small_form, this.1, this.2]]
    simp
  have e1 := e_is_form (w := w) (h.sz hM) hl
  unfold m_is_small_form b_is_small_form runF
  by_cases e : (r.length : Int) = w
  · simp [e] at e1
    simp [e1, hq, e]
  · simp [e] at e1
    simp [e1, e]
/-! ### steps -/
structure StepOk (n i : Nat) (r : List Int) : Prop where
  len : r.length = n + 1
  sm : small 20 r
  own : ∀ x, r[i + 1]? = some x → -9 ≤ x ∧ x ≤ 9
  zero : ∀ j x, i + 1 < j → r[j]? = some x → x = 0
theorem ixD_row {r : List Int} {k : Nat} {x : Int} (h : r[k]? = some x) : ixD (rowD r) (.int k) = .ok (.int x) := ixD_tup (by simp [h])
theorem ixD_rowZ {r : List Int} {i : Int} {k : Nat} {x : Int} (e : i = k) (h : r[k]? = some x) : ixD (rowD r) (.int i) = .ok (.int x) := by rw [e]; exact ixD_row h
theorem slice_row {r : List Int} {lo hi : Option Int} : sliceD (rowD r) lo hi = .ok (.tup (Mr.cutD (r.map .int) lo hi)) := id rfl
theorem slice_drop {r : List Int} {k : Nat} : sliceD (rowD r) (some (k : Int)) none = .ok (rowD (r.drop k)) := by
  rw [slice_row, cut_drop]
  unfold rowD
  rw [List.map_drop]
theorem slice_dropZ {r : List Int} {i : Int} {k : Nat} (e : i = k) : sliceD (rowD r) (some i) none = .ok (rowD (r.drop k)) := by rw [e]; exact slice_drop
theorem e_is_step {n i : Nat} {r : List Int} (h : StepOk n i r) (hi : i < n) (hn : n ≤ 3) : m_is_step [rowD r, .int ((n : Int) + 1), .int ((i : Int) + 1)] = .ok (.bl true) := by
  have hl := h.len
  obtain ⟨x, hx⟩ : ∃ x, r[i + 1]? = some x := ⟨_, List.getElem?_eq_getElem (by omega)⟩
  have hx2 := h.own x hx
  have e1 := e_is_small (w := (n : Int) + 1) (M := c_MAX_STEP) h.sm (by unfold c_MAX_STEP Sz; decide) (by omega)
  rw [show ((r.length : Nat) : Int) = (n : Int) + 1 by omega, decide_eq_true rfl] at e1
  have e2 : ixD (rowD r) (.int ((i : Int) + 1)) = .ok (.int x) := ixD_rowZ (k := i + 1) (by omega) hx
  have e3 : sliceD (rowD r) (some ((i : Int) + 1 + 1)) none = .ok (rowD (r.drop (i + 2))) := slice_dropZ (by omega)
  have hq : q1_is_step [.val (rowD r), .val (.int ((n : Int) + 1)), .val (.int ((i : Int) + 1)), .un] = .ok (List.replicate (r.drop (i + 2)).length (.bl true)) [.val (rowD r), .val (.int ((n : Int) + 1)), .val (.int ((i : Int) + 1)), .un] := by
    unfold q1_is_step
    simp [e3]
    rw [lcM_all (y := .bl true) _ rfl (by simp; omega) fun d hd => by
      rw [← List.map_drop] at hd
      obtain ⟨y, hy, rfl⟩ := List.mem_map.mp hd
      obtain ⟨k, hk, e⟩ := List.getElem_of_mem hy
      have : y = 0 := by
        refine h.zero (i + 2 + k) y (by omega) ?_
        rw [← e, List.getElem_drop, List.getElem?_eq_getElem]
      simp [turnM, e1_is_step, this]]
    simp
  have m9 : c_MAX_MULTIPLIER = 9 := rfl
  unfold m_is_step b_is_step runF
  simp [e1, e2, m9, hx2.1, hx2.2, hq]
theorem mem_enum {xs : List D} {d : D} (h : d ∈ enumL xs) : ∃ i x, xs[i]? = some x ∧ d = .tup [.int (i : Nat), x] := by
  obtain ⟨i, hi, e⟩ := List.getElem_of_mem h
  obtain ⟨x, e1, e2⟩ := enumL_get (xs := xs) (i := i) (d := d) (by rw [← e]; exact List.getElem?_eq_getElem hi)
  exact ⟨i, x, e1, e2⟩
def rowsD (rs : List (List Int)) : D := .tup (rs.map rowD)
@[simp] theorem len_rowsD {rs : List (List Int)} : lenD [rowsD rs] = .ok (.int rs.length) := by simp [rowsD]
@[simp] theorem walk_rowsD {rs : List (List Int)} : walkD (rowsD rs) = .ok (rs.map rowD) := id rfl
@[simp] theorem isi_rowsD {rs : List (List Int)} : isiD [rowsD rs, .opq (.ty "tuple")] = .ok (.bl true) := id rfl
theorem e_are_steps {n : Nat} {rs : List (List Int)} (hn : n ≤ 3) (hl : rs.length = n) (h : ∀ i r, rs[i]? = some r → StepOk n i r) : m_are_steps [rowsD rs, .int ((n : Int) + 1)] = .ok (.bl true) := by
  have hq : q1_are_steps [.val (rowsD rs), .val (.int ((n : Int) + 1)), .un, .un] = .ok (List.replicate (enumL (rs.map rowD)).length (.bl true)) [.val (rowsD rs), .val (.int ((n : Int) + 1)), .un, .un] := by
    unfold q1_are_steps
    have e : enumD [rowsD rs] = .ok (enumL (rs.map rowD)) := rfl
    simp [e]
    rw [lcM_all (y := .bl true) _ rfl (by rw [enumL_len]; simp; omega) fun d hd => by
      obtain ⟨i, x, e1, rfl⟩ := mem_enum hd
      rw [List.getElem?_map] at e1
      obtain ⟨r, e2, rfl⟩ := Option.map_eq_some_iff.mp e1
      have hi : i < n := by have := (List.getElem?_eq_some_iff.mp e2).1; omega
      simp [turnM, e1_are_steps, e_is_step (h i r e2) hi hn]]
    simp
  unfold m_are_steps b_are_steps runF
  simp [hl, hq]
/-! ### tests -/
structure Tst where
  more : Bool
  f : List Int
def sgS (b : Bool) : Str := if b then Str.ofString "more" else Str.ofString "least"
def tstD (t : Tst) : D := .tup [.str (sgS t.more), rowD t.f]
structure TstOk (n : Nat) (t : Tst) : Prop where
  len : t.f.length = n + 1
  sm : small 99 t.f
theorem e_is_test {n : Nat} {t : Tst} (h : TstOk n t) (hn : n ≤ 3) : m_is_test [tstD t, .int ((n : Int) + 1)] = .ok (.bl true) := by
  have hl := h.len
  have e1 := e_is_small (w := (n : Int) + 1) (M := c_MAX_TEST_NUMBER) h.sm (by unfold c_MAX_TEST_NUMBER Sz; decide) (by omega)
  rw [show ((t.f.length : Nat) : Int) = (n : Int) + 1 by omega, decide_eq_true rfl] at e1
  have e2 : m_is_sign [.str (sgS t.more)] = .ok (.bl true) := by
    cases t.more <;> kernel_rfl
  unfold m_is_test b_is_test runF tstD
  simp [e1, e2]
def tstsD (ts : List Tst) : D := .tup (ts.map tstD)
@[simp] theorem len_tstsD {ts : List Tst} : lenD [tstsD ts] = .ok (.int ts.length) := by simp [tstsD]
@[simp] theorem walk_tstsD {ts : List Tst} : walkD (tstsD ts) = .ok (ts.map tstD) := id rfl
@[simp] theorem isi_tstsD {ts : List Tst} : isiD [tstsD ts, .opq (.ty "tuple")] = .ok (.bl true) := id rfl
theorem e_are_tests {n : Nat} {ts : List Tst} (hn : n ≤ 3) (h0 : ts ≠ []) (hl : ts.length ≤ 4) (h : ∀ t ∈ ts, TstOk n t) : m_are_tests [tstsD ts, .int ((n : Int) + 1)] = .ok (.bl true) := by
  have hq : q1_are_tests [.val (tstsD ts), .val (.int ((n : Int) + 1)), .un] = .ok (List.replicate (ts.map tstD).length (.bl true)) [.val (tstsD ts), .val (.int ((n : Int) + 1)), .un] := by
    unfold q1_are_tests
    simp
    rw [lcM_all (y := .bl true) _ rfl (by simp; omega) fun d hd => by
      obtain ⟨t, ht, rfl⟩ := List.mem_map.mp hd
      simp [turnM, e1_are_tests, e_is_test (h t ht) hn]]
    simp
  have l0 := List.length_pos_iff.mpr h0
  have a1 : (1 : Int) ≤ ts.length := by omega
  have a2 : (ts.length : Int) ≤ 4 := by omega
  unfold m_are_tests b_are_tests runF
  simp [a1, a2, c_MAX_TESTS, hq]
/-! ### names -/
def NameOk (x : Str) : Prop := m_is_name [.str x] = .ok (.bl true)
def strsT (xs : List Str) : D := .tup (xs.map .str)
@[simp] theorem len_strsT {xs : List Str} : lenD [strsT xs] = .ok (.int xs.length) := by simp [strsT]
@[simp] theorem walk_strsT {xs : List Str} : walkD (strsT xs) = .ok (xs.map .str) := id rfl
@[simp] theorem isi_strsT {xs : List Str} : isiD [strsT xs, .opq (.ty "tuple")] = .ok (.bl true) := id rfl
theorem strsD_map : ∀ (xs : List Str), strsD (xs.map .str) = some xs
  | [] => rfl
  | x :: xs => by rw [List.map_cons, strsD, strsD_map xs]; rfl
theorem uniq_nodup : ∀ (n : Nat) (xs : List Str), xs.length = n → xs.Nodup → uniqS xs = xs := by
  intro n
  induction n with
  | zero => intro xs h _; rw [List.eq_nil_of_length_eq_zero h]; rfl
  | succ n ih =>
    intro xs h hn
    have ne : xs ≠ [] := fun z => by rw [z] at h; simp at h
    have e := List.dropLast_concat_getLast ne
    have hd : xs.dropLast.Nodup := hn.sublist (List.dropLast_sublist _)
    have i := ih xs.dropLast (by rw [List.length_dropLast, h]; rfl) hd
    rw [← e] at hn
    have hx : hasS (uniqS xs.dropLast) (xs.getLast ne) = false := by
      rw [i]
      unfold hasS
      rw [Bool.eq_false_iff]
      intro z
      obtain ⟨q, hq, e2⟩ := List.any_eq_true.mp z
      have : q = xs.getLast ne := of_decide_eq_true e2
      exact (List.nodup_append.mp hn).2.2 q hq _ (List.mem_singleton.mpr rfl) this
    rw [← e, uniqS_snoc, hx, if_neg Bool.false_ne_true, i]
theorem e_is_names {xs : List Str} (h0 : xs ≠ []) (hl : xs.length ≤ 3) (hn : xs.Nodup) (h : ∀ x ∈ xs, NameOk x) : m_is_names [strsT xs] = .ok (.bl true) := by
  have hq : q1_is_names [.val (strsT xs), .un] = .ok (List.replicate (xs.map D.str).length (.bl true)) [.val (strsT xs), .un] := by
    unfold q1_is_names
    simp
    rw [lcM_all (y := .bl true) _ rfl (by simp; omega) fun d hd => by
      obtain ⟨x, hx, rfl⟩ := List.mem_map.mp hd
      have e : m_is_name [.str x] = .ok (.bl true) := h x hx
      simp [turnM, e1_is_names, e]]
    simp
  have l0 := List.length_pos_iff.mpr h0
  have a1 : (1 : Int) ≤ xs.length := by omega
  have a2 : (xs.length : Int) ≤ 3 := by omega
  have es : lenSetD (strsT xs) = .ok (.int xs.length) := by
    show (match strsD (xs.map D.str) with | some ss => if ss.length < 1000 then FR.ok (D.int (uniqS ss).length) else .stuck | none => .stuck) = _
    rw [strsD_map]
    simp only
    rw [if_pos (by omega), uniq_nodup _ xs rfl hn]
  unfold m_is_names b_is_names runF
  simp [a1, a2, c_MOST_NAMES, hq, es]
/-! ### loops -/
structure Lp where
  names : List Str
  steps : List (List Int)
  tests : List Tst
def Lp.n (l : Lp) : Nat := l.names.length
structure LpOk (l : Lp) : Prop where
  n0 : l.names ≠ []
  n3 : l.n ≤ 3
  nd : l.names.Nodup
  nm : ∀ x ∈ l.names, NameOk x
  sl : l.steps.length = l.n
  st : ∀ i r, l.steps[i]? = some r → StepOk l.n i r
  t0 : l.tests ≠ []
  t4 : l.tests.length ≤ 4
  ts : ∀ t ∈ l.tests, TstOk l.n t
def Lp.unit (l : Lp) : List Int := 1 :: List.replicate l.n 0
def Lp.mat (l : Lp) : List (List Int) := l.unit :: l.steps
def lpNs : List Str := ["own_names", "own_steps", "own_by_name", "own_tests", "own_width", "own_matrix"]
def lpD (l : Lp) : D := .obj "Loop" lpNs [strsT l.names, rowsD l.steps, .dct (l.names.map .inr) (l.steps.map rowD), tstsD l.tests, .int ((l.n : Int) + 1), rowsD l.mat]
theorem setKs_new {k : Key} {ks : List Key} (h : k ∉ ks) : setKs k ks = ks ++ [k] := by
  unfold setKs
  rw [if_neg]
  intro z
  unfold hasK at z
  obtain ⟨q, hq, e⟩ := List.any_eq_true.mp z
  exact h (of_decide_eq_true e ▸ hq)
theorem setVs_new {α : Type} {k : Key} {y : α} {ks : List Key} {ds : List α} (h : k ∉ ks) : setVs k y ks ds = ds ++ [y] := by
  unfold setVs
  rw [if_neg]
  intro z
  unfold hasK at z
  obtain ⟨q, hq, e⟩ := List.any_eq_true.mp z
  exact h (of_decide_eq_true e ▸ hq)
/-- the dict of names and steps -/
theorem dc_names {ρ0 ρ1 ρ2 ρ3 : SV} : ∀ (ps : List (Str × List Int)) (ks : List Key) (acc : List D), ks.length + ps.length < 1000 → (ks ++ ps.map fun p => (Sum.inr p.1 : Key)).Nodup →
    dcM [4, 5] (.tp [.sl 4, .sl 5]) tYesM (mVar 4) (mVar 5) (ps.map fun p => .tup [.str p.1, rowD p.2]) ks acc [ρ0, ρ1, ρ2, ρ3, .un, .un] = .ok (ks ++ ps.map fun p => (Sum.inr p.1 : Key), acc ++ ps.map fun p => rowD p.2) [ρ0, ρ1, ρ2, ρ3, .un, .un]
  | [], ks, acc, _, _ => by simp [dcM]
  | p :: ps, ks, acc, hl, hn => by
    have hk : (Sum.inr p.1 : Key) ∉ ks := fun z => by
      rw [List.map_cons] at hn
      exact (List.nodup_append.mp hn).2.2 _ z _ (List.mem_cons_self ..) rfl
    rw [List.length_cons] at hl
    have ih := dc_names (ρ0 := ρ0) (ρ1 := ρ1) (ρ2 := ρ2) (ρ3 := ρ3) ps (ks ++ [.inr p.1]) (acc ++ [rowD p.2]) (by simp; omega) (by simpa using hn)
    have hs : ks.length < 16777216 := by omega
    have k1 : keyD (.str p.1) = some (.inr p.1) := rfl
    rw [List.map_cons, dcM]
    simp [k1, sizeLine_eq, hs, setKs_new hk, setVs_new hk, ih]
theorem e_loop {l : Lp} (h : LpOk l) : m_Loop___init__ (.ins true "Loop" [] []) [strsT l.names, rowsD l.steps, tstsD l.tests] = .ok .non (.ins true "Loop" lpNs [strsT l.names, rowsD l.steps, .dct (l.names.map .inr) (l.steps.map rowD), tstsD l.tests, .int ((l.n : Int) + 1), rowsD l.mat]) := by
  have e1 := e_is_names h.n0 h.n3 h.nd h.nm
  have e2 := e_are_steps h.n3 h.sl h.st
  have e3 := e_are_tests h.n3 h.t0 h.t4 h.ts
  have hz : zipMD [strsT l.names, rowsD l.steps] = .ok ((l.names.zip l.steps).map fun p => .tup [.str p.1, rowD p.2]) := by
    show FR.ok ((l.names.map D.str).zipWith (fun x y => D.tup [x, y]) (l.steps.map rowD)) = _
    rw [List.zipWith_map, List.zip, List.map_zipWith]
  have hd : d1_Loop___init__ [.ins true "Loop" ["own_names", "own_steps"] [strsT l.names, rowsD l.steps], .val (strsT l.names), .val (rowsD l.steps), .val (tstsD l.tests), .un, .un] = .ok (.dct (l.names.map .inr) (l.steps.map rowD)) [.ins true "Loop" ["own_names", "own_steps"] [strsT l.names, rowsD l.steps], .val (strsT l.names), .val (rowsD l.steps), .val (tstsD l.tests), .un, .un] := by
    have nk : ((l.names.zip l.steps).map fun p => (Sum.inr p.1 : Key)) = l.names.map .inr := by
      rw [show (fun p : Str × List Int => (Sum.inr p.1 : Key)) = (fun x => Sum.inr x) ∘ Prod.fst from rfl, ← List.map_map, List.map_fst_zip (by have := h.sl; unfold Lp.n at this; omega)]
    have ns : ((l.names.zip l.steps).map fun p => rowD p.2) = l.steps.map rowD := by
      rw [show (fun p : Str × List Int => rowD p.2) = rowD ∘ Prod.snd from rfl, ← List.map_map, List.map_snd_zip (by have := h.sl; unfold Lp.n at this; omega)]
    have q := dc_names (ρ0 := .ins true "Loop" ["own_names", "own_steps"] [strsT l.names, rowsD l.steps]) (ρ1 := .val (strsT l.names)) (ρ2 := .val (rowsD l.steps)) (ρ3 := .val (tstsD l.tests)) (l.names.zip l.steps) [] []
      (by have := h.n3; unfold Lp.n at this; simp; omega) (by rw [List.nil_append, nk]; exact List.pairwise_map.mpr (h.nd.imp fun ne e => ne (Sum.inr.inj e)))
    rw [List.nil_append, List.nil_append, nk, ns] at q
    unfold d1_Loop___init__ mDc
    simp [hz, q]
  have hq : q1_Loop___init__ [.ins true "Loop" ["own_names", "own_steps", "own_by_name", "own_tests", "own_width"] [strsT l.names, rowsD l.steps, .dct (l.names.map .inr) (l.steps.map rowD), tstsD l.tests, .int ((l.n : Int) + 1)], .val (strsT l.names), .val (rowsD l.steps), .val (tstsD l.tests), .un, .un] =
      .ok ((List.replicate l.n 0).map D.int) [.ins true "Loop" ["own_names", "own_steps", "own_by_name", "own_tests", "own_width"] [strsT l.names, rowsD l.steps, .dct (l.names.map .inr) (l.steps.map rowD), tstsD l.tests, .int ((l.n : Int) + 1)], .val (strsT l.names), .val (rowsD l.steps), .val (tstsD l.tests), .un, .un] := by
    unfold q1_Loop___init__
    simp
    rw [lcM_all (y := .int 0) _ rfl (by have := h.n3; unfold Lp.n at this; simp; omega) fun d hd => by
      obtain ⟨x, hx, rfl⟩ := List.mem_map.mp hd
      simp [turnM, e1_Loop___init__]]
    simp [Lp.n]
  have en : ((l.names.length : Nat) : Int) = (l.n : Int) := rfl
  have p1 : putN "own_names" [] = (["own_names"] : List Str) := rfl
  have p2 : putN "own_steps" ["own_names"] = (["own_names", "own_steps"] : List Str) := rfl
  have p3 : putN "own_by_name" ["own_names", "own_steps"] = (["own_names", "own_steps", "own_by_name"] : List Str) := rfl
  have p4 : putN "own_tests" ["own_names", "own_steps", "own_by_name"] = (["own_names", "own_steps", "own_by_name", "own_tests"] : List Str) := rfl
  have p5 : putN "own_width" ["own_names", "own_steps", "own_by_name", "own_tests"] = (["own_names", "own_steps", "own_by_name", "own_tests", "own_width"] : List Str) := rfl
  have p6 : putN "own_matrix" ["own_names", "own_steps", "own_by_name", "own_tests", "own_width"] = lpNs := rfl
  have x1 : ∀ y : D, putX "own_names" y [] [] = [y] := fun _ => rfl
  have x2 : ∀ a y : D, putX "own_steps" y ["own_names"] [a] = [a, y] := fun _ _ => rfl
  have x3 : ∀ a b y : D, putX "own_by_name" y ["own_names", "own_steps"] [a, b] = [a, b, y] := fun _ _ _ => rfl
  have x4 : ∀ a b c y : D, putX "own_tests" y ["own_names", "own_steps", "own_by_name"] [a, b, c] = [a, b, c, y] := fun _ _ _ _ => rfl
  have x5 : ∀ a b c d y : D, putX "own_width" y ["own_names", "own_steps", "own_by_name", "own_tests"] [a, b, c, d] = [a, b, c, d, y] := fun _ _ _ _ _ => rfl
  have x6 : ∀ a b c d e y : D, putX "own_matrix" y ["own_names", "own_steps", "own_by_name", "own_tests", "own_width"] [a, b, c, d, e] = [a, b, c, d, e, y] := fun _ _ _ _ _ _ => rfl
  have i1 : ∀ xs : List D, itemsD (.lst xs) = .ok xs := fun _ => rfl
  have i2 : itemsD (rowsD l.steps) = .ok (l.steps.map rowD) := rfl
  have t1 : tupD (D.int 1 :: List.map D.int (List.replicate l.n 0)) = .ok (rowD l.unit) := by
    rw [tupD_of (by have := h.n3; simp [sizeLine_eq]; omega)]; rfl
  have t2 : tupD (rowD l.unit :: l.steps.map rowD) = .ok (rowsD l.mat) := by
    rw [tupD_of (by have := h.sl; have := h.n3; simp [sizeLine_eq]; omega)]; rfl
  unfold m_Loop___init__ b_Loop___init__ runI
  simp only [List.map_replicate] at hq t1
  simp [en, e1, e2, e3, p1, p2, p3, p4, p5, p6, x1, x2, x3, x4, x5, x6, hd, hq, mStar, i1, i2, t1, t2]
end Pm
/-! LS: starts and rounds. -/
namespace Pm
open PySem PySem.Spec PyProof.Rows L2 Mr
@[simp] theorem fld_width {l : Lp} : fldD ["Loop"] "own_width" (lpD l) = .ok (.int ((l.n : Int) + 1)) := id rfl
@[simp] theorem fld_mat {l : Lp} : fldD ["Loop"] "own_matrix" (lpD l) = .ok (rowsD l.mat) := id rfl
@[simp] theorem fld_names {l : Lp} : fldD ["Loop"] "own_names" (lpD l) = .ok (strsT l.names) := id rfl
@[simp] theorem fld_steps {l : Lp} : fldD ["Loop"] "own_steps" (lpD l) = .ok (rowsD l.steps) := id rfl
@[simp] theorem fld_tests {l : Lp} : fldD ["Loop"] "own_tests" (lpD l) = .ok (tstsD l.tests) := id rfl
@[simp] theorem isi_lpD {l : Lp} : isiOD (Str.ofString "Loop") (lpD l) = .ok (.bl true) := id rfl
theorem e_require_loop {l : Lp} : m_require_loop [lpD l] = .ok .non := by
  unfold m_require_loop b_require_loop runF
  simp
structure StartOk (n : Nat) (X : List Int) : Prop where
  len : X.length = n + 1
  pos : ∀ x, X[0]? = some x → 1 ≤ x
  sz : ∀ x ∈ X, Sz 600 x
theorem StartOk.at0 {n : Nat} {X : List Int} (h : StartOk n X) : ∃ x r, X = x :: r ∧ 1 ≤ x ∧ r.length = n := by
  cases X with
  | nil => have := h.len; simp at this
  | cons x r => exact ⟨x, r, rfl, h.pos x rfl, by have := h.len; simpa using this⟩
theorem e_is_start {l : Lp} {X : List Int} (h : StartOk l.n X) (hn : l.n ≤ 3) : m_is_start_of [lpD l, rowD X] = .ok (.bl true) := by
  have hl := h.len
  obtain ⟨x, r, e, hx, _⟩ := h.at0
  have e1 := e_is_form (w := (l.n : Int) + 1) h.sz (by omega)
  rw [show ((X.length : Nat) : Int) = (l.n : Int) + 1 by omega, decide_eq_true rfl] at e1
  have e2 : ixD (rowD X) (.int 0) = .ok (.int x) := ixD_row (k := 0) (by rw [e]; rfl)
  unfold m_is_start_of b_is_start_of runF
  simp [e1, e2, hx]
theorem e_require_start {l : Lp} {X : List Int} (h : StartOk l.n X) (hn : l.n ≤ 3) : m_require_start [lpD l, rowD X] = .ok .non := by
  unfold m_require_start b_require_start runF
  simp [e_is_start h hn]
theorem e_value_at {a b : Nat} {xs ys : List Int} (hx : xs.length ≤ 1000) (h : ∀ x ∈ xs, Sz a x) (h' : ∀ y ∈ ys, Sz b y) (hab : a + b ≤ 134217728) : m_value_at [rowD xs, rowD ys] = .ok (.int (dot xs ys)) := e_value_by hx h h' hab
def Lp.next (l : Lp) (X : List Int) : List Int := l.mat.map fun r => dot r X
@[simp] theorem next_len {l : Lp} {X : List Int} : (l.next X).length = l.mat.length := by unfold Lp.next; exact List.length_map _
theorem LpOk.mat_len {l : Lp} (h : LpOk l) : l.mat.length = l.n + 1 := by unfold Lp.mat; rw [List.length_cons, h.sl]
theorem LpOk.step_mem {l : Lp} (h : LpOk l) {r : List Int} (hr : r ∈ l.steps) : r.length = l.n + 1 ∧ small 20 r := by
  obtain ⟨i, hi, e⟩ := List.getElem_of_mem hr
  have q := h.st i r (by rw [← e]; exact List.getElem?_eq_getElem hi)
  exact ⟨q.len, q.sm⟩
theorem LpOk.mat_mem {l : Lp} (h : LpOk l) {r : List Int} (hr : r ∈ l.mat) : r.length = l.n + 1 ∧ small 20 r := by
  rcases List.mem_cons.mp hr with e | e
  · subst e
    refine ⟨by unfold Lp.unit; simp, fun x hx => ?_⟩
    unfold Lp.unit at hx
    rcases List.mem_cons.mp hx with e | e
    · omega
    · rw [List.eq_of_mem_replicate e]; omega
  · exact h.step_mem e
theorem sz20 : Sz 5 (20 : Int) := by unfold Sz; decide
theorem e_led_by {l : Lp} {a : Nat} {X : List Int} (h : LpOk l) (hX : ∀ x ∈ X, Sz a x) (ha : a ≤ 100000000) : m_led_by [lpD l, rowD X] = .ok (rowD (l.next X)) := by
  have hm := h.mat_len
  have n3 := h.n3
  have hq : q1_led_by [.val (lpD l), .val (rowD X), .un] = .ok ((l.next X).map .int) [.val (lpD l), .val (rowD X), .un] := by
    unfold q1_led_by
    simp
    rw [lcM_map rowD l.mat (fun r => .int (dot r X)) rfl (by rw [sizeLine_eq]; omega) fun r hr => by
      obtain ⟨l1, s1⟩ := h.mat_mem hr
      simp [turnM, e1_led_by, e_value_at (by omega) (s1.sz sz20) hX (by omega)]]
    simp [Lp.next]
  unfold m_led_by b_led_by runF
  simp [hq]
  rfl
theorem e_led {l : Lp} {X : List Int} (h : LpOk l) (hX : StartOk l.n X) : m_led [lpD l, rowD X] = .ok (rowD (l.next X)) := by
  unfold m_led b_led runF
  simp [e_require_loop, e_require_start hX h.n3, e_led_by h hX.sz (by decide)]
theorem next_sz {l : Lp} {a : Nat} {X : List Int} (h : LpOk l) (hX : ∀ x ∈ X, Sz a x) : ∀ x ∈ l.next X, Sz (5 + a + 2) x := fun x hx => by
  obtain ⟨r, hr, rfl⟩ := List.mem_map.mp hx
  obtain ⟨l1, s1⟩ := h.mat_mem hr
  have := h.n3
  exact dot_sz (s1.sz sz20) hX (by omega)
theorem dot_zeros : ∀ (k : Nat) (r : List Int), dot (List.replicate k 0) r = 0
  | 0, r => by simp [dot]
  | k + 1, [] => by simp [dot]
  | k + 1, x :: r => by
    have := dot_zeros k r
    unfold dot at *
    rw [List.replicate_succ, List.zipWith_cons_cons, List.sum_cons, this]; simp
theorem unit_dot {l : Lp} {x : Int} {r : List Int} : dot l.unit (x :: r) = x := by
  have := dot_zeros l.n r
  unfold dot at this
  unfold dot Lp.unit
  rw [List.zipWith_cons_cons, List.sum_cons, this]; simp
/-- the first number stays -/
theorem next_cons {l : Lp} {x : Int} {r : List Int} : l.next (x :: r) = x :: l.steps.map fun s => dot s (x :: r) := by
  unfold Lp.next Lp.mat
  rw [List.map_cons, unit_dot]
theorem next_start {l : Lp} {X : List Int} (h : LpOk l) (hX : StartOk l.n X) (hz : ∀ x ∈ l.next X, Sz 600 x) : StartOk l.n (l.next X) := by
  obtain ⟨x, r, e, hx, _⟩ := hX.at0
  refine ⟨by rw [next_len, h.mat_len], fun y hy => ?_, hz⟩
  rw [e, next_cons] at hy
  cases hy; exact hx
theorem next_add {l : Lp} {X Y : List Int} (h : LpOk l) (hX : X.length = l.n + 1) (hY : Y.length = l.n + 1) : l.next (addR X Y) = addR (l.next X) (l.next Y) := by
  unfold Lp.next addR
  rw [List.zipWith_map]
  have : ∀ rs : List (List Int), (∀ r ∈ rs, r.length = l.n + 1) → rs.map (fun r => dot r (List.zipWith (· + ·) X Y)) = List.zipWith (fun r s => dot r X + dot s Y) rs rs := fun rs => by
    induction rs with
    | nil => intro _; rfl
    | cons r rs ih =>
      intro hr
      rw [List.map_cons, List.zipWith_cons_cons, ih fun s hs => hr s (List.mem_cons_of_mem _ hs)]
      have lr := hr r (List.mem_cons_self ..)
      rw [show dot r (List.zipWith (· + ·) X Y) = dot r X + dot r Y from dot_addr X Y r (by omega) (by omega)]
  exact this _ fun r hr => (h.mat_mem hr).1
theorem next_mul {l : Lp} {X : List Int} {n : Int} : l.next (mulR n X) = mulR n (l.next X) := by
  unfold Lp.next
  conv => rhs; unfold mulR
  rw [List.map_map]
  exact List.map_congr_left fun r _ => dot_mulr n X r
theorem add_start {n : Nat} {X Y : List Int} (hX : StartOk n X) (hY : StartOk n Y) (hz : ∀ x ∈ addR X Y, Sz 600 x) : StartOk n (addR X Y) := by
  obtain ⟨x, r, rfl, hx, h1⟩ := hX.at0
  obtain ⟨y, q, rfl, hy, h2⟩ := hY.at0
  refine ⟨by simp [h1, h2], fun z e => ?_, hz⟩
  unfold addR at e
  rw [List.zipWith_cons_cons] at e
  cases e
  show 1 ≤ x + y
  omega
theorem mul_start {n : Nat} {X : List Int} {m : Int} (hX : StartOk n X) (hm : 1 ≤ m) (hz : ∀ x ∈ mulR m X, Sz 600 x) : StartOk n (mulR m X) := by
  obtain ⟨x, r, rfl, hx, h1⟩ := hX.at0
  refine ⟨by simp [h1], fun z e => ?_, hz⟩
  unfold mulR at e
  rw [List.map_cons] at e
  cases e
  have := Int.mul_le_mul hm hx (by decide) (by omega)
  omega
/-! ### the law's own loops -/
def dictD (l : Lp) : D := .dct [.inr (Str.ofString "words"), .inr (Str.ofString "moves"), .inr (Str.ofString "checks")] [strsT l.names, rowsD l.steps, tstsD l.tests]
@[simp] theorem get_words {l : Lp} : dgetD (dictD l) (.str (Str.ofString "words")) = .ok (strsT l.names) := id rfl
@[simp] theorem get_moves {l : Lp} : dgetD (dictD l) (.str (Str.ofString "moves")) = .ok (rowsD l.steps) := id rfl
@[simp] theorem get_checks {l : Lp} : dgetD (dictD l) (.str (Str.ofString "checks")) = .ok (tstsD l.tests) := id rfl
theorem e_made {l : Lp} (h : LpOk l) : m__law_made_loop [dictD l] = .ok (lpD l) := by
  unfold m__law_made_loop b__law_made_loop runF
  simp [e_loop h]
  rfl
theorem e_lnext {l : Lp} {a : Nat} {X : List Int} (h : LpOk l) (hX : StartOk l.n X) (hz : ∀ x ∈ X, Sz a x) (ha : a ≤ 100000000) : m__law_next [dictD l, rowD X] = .ok (rowD (l.next X)) := by
  have hm := h.sl
  have n3 := h.n3
  obtain ⟨x, r, e, hx, _⟩ := hX.at0
  have hq : q1__law_next [.val (dictD l), .val (rowD X), .un] = .ok (l.steps.map fun s => .int (dot s X)) [.val (dictD l), .val (rowD X), .un] := by
    unfold q1__law_next
    simp
    rw [lcM_map rowD l.steps (fun r => .int (dot r X)) rfl (by rw [sizeLine_eq]; omega) fun r hr => by
      obtain ⟨l1, s1⟩ := h.step_mem hr
      simp [turnM, e1__law_next, e_amount (by omega) (s1.sz sz20) hz (by omega)]]
    simp
  have e2 : ixD (rowD X) (.int 0) = .ok (.int x) := ixD_row (k := 0) (by rw [e]; rfl)
  have e3 : addD (.tup [.int x]) (.tup (l.steps.map fun s => .int (dot s X))) = .ok (rowD (l.next X)) := by
    have hz : [D.int x].length + (l.steps.map fun s => D.int (dot s X)).length ≤ sizeLine := by rw [sizeLine_eq]; simp; omega
    show (if _ then _ else _) = _
    rw [if_pos hz, e, next_cons]
    unfold rowD
    rw [List.map_cons, List.map_map]; rfl
  unfold m__law_next b__law_next runF
  simp [hq, e2, tupD_of, sizeLine_eq, e3]
end Pm
/-! LW: drawn loops. -/
namespace Pm
open PySem PySem.Spec PyProof.Rows L2 Mr
/-- a loop over items by their places -/
theorem forM_at {t : Tg} {body : M Fl} {I : Nat → Ro → Prop} : ∀ (ds : List D) (n : Nat) (ρ : Ro), I n ρ → (∀ i d ρ, ds[i]? = some d → I (n + i) ρ → ∃ ρ', turnF t body ρ d = .ok .nx ρ' ∧ I (n + i + 1) ρ') → ∃ ρ', forM t body ds ρ = .ok .nx ρ' ∧ I (n + ds.length) ρ'
  | [], n, ρ, h, _ => ⟨ρ, by simp, h⟩
  | d :: ds, n, ρ, h, s => by
    obtain ⟨ρ1, e1, h1⟩ := s 0 d ρ rfl h
    obtain ⟨ρ2, e2, h2⟩ := forM_at ds (n + 1) ρ1 h1 fun i d ρ hd hI => by
      obtain ⟨ρ', e, h'⟩ := s (i + 1) d ρ hd (by rw [show n + (i + 1) = n + 1 + i by omega]; exact hI)
      exact ⟨ρ', e, by rw [show n + 1 + i + 1 = n + (i + 1) + 1 by omega]; exact h'⟩
    refine ⟨ρ2, ?_, by rw [List.length_cons, show n + (ds.length + 1) = n + 1 + ds.length by omega]; exact h2⟩
    have e1 : ((putT t d ρ).bind fun _ ρ => body ρ) = .ok .nx ρ1 := e1
    rw [ap_forC]
    cases ep : putT t d ρ with
    | ok u ρ' =>
      rw [ep] at e1
      have e1 : body ρ' = .ok .nx ρ1 := e1
      show ((body ρ').bind _) = _
      rw [e1]
      exact e2
    | exc x ρ' => rw [ep] at e1; cases e1
    | stuck => rw [ep] at e1; cases e1
/-- .. over range(n) -/
theorem forM_range {t : Tg} {body : M Fl} {I : Nat → Ro → Prop} (n : Nat) (ρ : Ro) (h0 : I 0 ρ) (h : ∀ i ρ, i < n → I i ρ → ∃ ρ', turnF t body ρ (.int (i : Nat)) = .ok .nx ρ' ∧ I (i + 1) ρ') : ∃ ρ', forM t body ((List.range n).map fun (k : Nat) => D.int k) ρ = .ok .nx ρ' ∧ I n ρ' := by
  obtain ⟨ρ', e, h'⟩ := forM_at (t := t) (body := body) (I := I) ((List.range n).map fun (k : Nat) => D.int k) 0 ρ h0 fun i d ρ hd hI => by
    rw [List.getElem?_map] at hd
    obtain ⟨k, hk, rfl⟩ := Option.map_eq_some_iff.mp hd
    obtain ⟨hl, e⟩ := List.getElem?_eq_some_iff.mp hk
    rw [List.getElem_range] at e
    subst e
    rw [List.length_range] at hl
    rw [Nat.zero_add] at hI
    obtain ⟨ρ', e, h'⟩ := h i ρ hl hI
    exact ⟨ρ', e, by rw [Nat.zero_add]; exact h'⟩
  refine ⟨ρ', e, ?_⟩
  rw [List.length_map, List.length_range, Nat.zero_add] at h'
  exact h'
theorem add_row {a b : List Int} (h : a.length + b.length ≤ 1000000) : addD (rowD a) (rowD b) = .ok (rowD (a ++ b)) := by
  show (if (a.map D.int).length + (b.map D.int).length ≤ sizeLine then FR.ok (D.tup (a.map .int ++ b.map .int)) else .stuck) = _
  rw [if_pos (by rw [sizeLine_eq]; simp; omega)]
  unfold rowD
  rw [List.map_append]
theorem add_row1 {a : List Int} {x : Int} (h : a.length ≤ 1000) : addD (rowD a) (.tup [.int x]) = .ok (rowD (a ++ [x])) := add_row (b := [x]) (by simp; omega)
theorem step_of {n i : Nat} {a : List Int} {x : Int} (hi : i < n) (la : a.length = i + 1) (sa : small 20 a) (hx : -9 ≤ x ∧ x ≤ 9) : StepOk n i (a ++ [x] ++ List.replicate (n - i - 1) 0) := by
  refine ⟨by simp [la]; omega, ?_, fun y hy => ?_, fun j y hj hy => ?_⟩
  · refine small.append (small.append sa fun y hy => ?_) fun y hy => ?_
    · rw [List.mem_singleton.mp hy]; omega
    · rw [List.eq_of_mem_replicate hy]; omega
  · rw [List.append_assoc, List.getElem?_append_right (by omega), la, Nat.sub_self] at hy
    cases hy; exact hx
  · rw [List.getElem?_append_right (by simp [la]; omega)] at hy
    exact List.eq_of_mem_replicate (List.mem_of_getElem? hy)
theorem nm_x : NameOk (Str.ofString "x") := by unfold NameOk; kernel_rfl
theorem nm_y : NameOk (Str.ofString "y") := by unfold NameOk; kernel_rfl
theorem nm_z : NameOk (Str.ofString "z") := by unfold NameOk; kernel_rfl
theorem nm_a : NameOk (Str.ofString "a") := by unfold NameOk; kernel_rfl
theorem nm_n : NameOk (Str.ofString "n") := by unfold NameOk; kernel_rfl
theorem nm_total : NameOk (Str.ofString "total") := by unfold NameOk; kernel_rfl
theorem nm_zz : NameOk (Str.ofString "zzzzzzzz") := by unfold NameOk; kernel_rfl
/-- names out of a dealt list -/
theorem names_of {ys : List D} {l : List Str} (p : List.Perm ys (l.map D.str)) (hn : l.Nodup) (hm : ∀ x ∈ l, NameOk x) (k : Nat) (h1 : 1 ≤ k) (hk : k ≤ l.length) : ∃ ns : List Str, ys.take k = ns.map .str ∧ ns.length = k ∧ ns.Nodup ∧ ∀ x ∈ ns, NameOk x := by
  obtain ⟨l', rfl, pp⟩ := perm_map p
  refine ⟨l'.take k, by rw [List.map_take], by rw [List.length_take, pp.length_eq]; omega, (pp.nodup_iff.mpr hn).sublist (List.take_sublist _ _), fun x hx => hm x (pp.mem_iff.mp (List.mem_of_mem_take hx))⟩
theorem e_wide_loop {xs : List D} {b : Nat} (h : Bowl b xs) (hb : b < 500000) : ∃ (l : Lp) (ys : List D), m__law_wide_loop (.own true xs) [] = .ok (dictD l) (.own true ys) ∧ LpOk l ∧ Bowl (b + 100) ys := by
  obtain ⟨ds, x1, e1, p1, b1⟩ := e_dealtL (ds := [Str.ofString "x", Str.ofString "y", Str.ofString "a", Str.ofString "total", Str.ofString "zzzzzzzz", Str.ofString "n"].map D.str) h (by simp) (by omega)
  obtain ⟨j, x2, e2, j1, b2⟩ := e_bit b1 (m := 3) (by decide) (by decide) (by simp; omega)
  obtain ⟨ns, en, ln, dn, okn⟩ := names_of p1 (by decide +kernel) (by
    intro x hx
    simp only [List.mem_cons, List.not_mem_nil, or_false] at hx
    rcases hx with rfl | rfl | rfl | rfl | rfl | rfl
    · exact nm_x
    · exact nm_y
    · exact nm_a
    · exact nm_total
    · exact nm_zz
    · exact nm_n) (1 + j) (by omega) (by simp; omega)
  have hz : sliceD (.lst ds) none (some (1 + (j : Int))) = .ok (.lst (ns.map .str)) := by
    show FR.ok (D.lst (Mr.cutD ds none (some (1 + (j : Int))))) = _
    rw [show (1 + (j : Int)) = ((1 + j : Nat) : Int) by omega, cut_take, en]
  obtain ⟨n, hn⟩ : ∃ n, n = ns.length := ⟨_, rfl⟩
  have n3 : n ≤ 3 := by omega
  -- the steps
  obtain ⟨ρ1, f1, zs, rows, v2, v7, rfl, hv2, hv7, hzs, hl, hst⟩ := forM_range (t := .sl 2) (body := y1__law_wide_loop)
    (I := fun i ρ => ∃ (zs : List D) (rows : List (List Int)) (v2 v7 : SV), ρ = [.own true zs, .val (strsT ns), v2, .un, .val (.int n), .own false (rows.map rowD), .own false [], v7] ∧ v2.isIo = false ∧ v7.isIo = false ∧ Bowl (b + 7 + 10 * i) zs ∧ rows.length = i ∧ ∀ k r, rows[k]? = some r → StepOk n k r)
    n [.own true x2, .val (strsT ns), .un, .un, .val (.int n), .own false [], .own false [], .un] ⟨x2, [], .un, .un, rfl, rfl, rfl, by simpa using b2, rfl, by simp⟩ (fun i ρ hi hI => by
      obtain ⟨zs, rows, v2, v7, rfl, hv2, hv7, hzs, hl, hst⟩ := hI
      obtain ⟨o, y1, ho, g1, c1⟩ := e_pickM D.int [0, 1, -1, 9, -9, 3] hzs (by simp) (by simp) (by omega)
      have o9 : -9 ≤ o ∧ o ≤ 9 := by
        simp only [List.mem_cons, List.not_mem_nil, or_false] at ho
        omega
      obtain ⟨r, y2, g2, lr, sr, c2⟩ := e_line c1 (n := i + 1) (M := 20) (by decide) (by decide) (by omega)
      have g2 : m__law_line (.own true y1) [.int ((i : Int) + 1), .int 20] = .ok (rowD r) (.own true y2) := g2
      have g3 := mul_zeroZ (i := (n : Int) - i - 1) (n := n - i - 1) (by omega) (by omega)
      have g4 := add_row1 (a := r) (x := o) (by omega)
      have g5 := add_row (a := r ++ [o]) (b := List.replicate (n - i - 1) 0) (by simp; omega)
      have hsz : rows.length < 16777216 := by omega
      refine ⟨[.own true y2, .val (strsT ns), .val (.int i), .un, .val (.int n), .own false ((rows ++ [r ++ [o] ++ List.replicate (n - i - 1) 0]).map rowD), .own false [], .val (.int o)], ?_, y2, _, _, _, rfl, rfl, rfl, c2.mono (by omega), by simp [hl], fun k q hq => ?_⟩
      · simp only [List.map_cons, List.map_nil] at g1
        simp [turnF, y1__law_wide_loop, hv2, hv7, lstD_of, tupD_of, sizeLine_eq, g1, g2, g3, g4, g5, hsz]
      · rw [List.getElem?_append] at hq
        split at hq
        · exact hst k q hq
        · rename_i hk
          have hk0 : k - rows.length = 0 := by
            cases hh : k - rows.length with
            | zero => rfl
            | succ m => rw [hh] at hq; cases hq
          rw [hk0] at hq
          cases hq
          have : k = i := by omega
          subst this
          exact step_of hi lr sr o9)
  -- the tests
  obtain ⟨c, x3, e3, c1, b3⟩ := e_bit hzs (m := 4) (by decide) (by decide) (by omega)
  obtain ⟨ρ2, f2, us, ts, v3, rfl, hv3, hus, hlt, htt⟩ := forM_range (t := .sl 3) (body := y2__law_wide_loop)
    (I := fun i ρ => ∃ (us : List D) (ts : List Tst) (v3 : SV), ρ = [.own true us, .val (strsT ns), v2, v3, .val (.int n), .own false (rows.map rowD), .own false (ts.map tstD), v7] ∧ v3.isIo = false ∧ Bowl (b + 40 + 10 * i) us ∧ ts.length = i ∧ ∀ t ∈ ts, TstOk n t)
    (1 + c) [.own true x3, .val (strsT ns), v2, .un, .val (.int n), .own false (rows.map rowD), .own false [], v7] ⟨x3, [], .un, rfl, rfl, b3.mono (by omega), rfl, by simp⟩ (fun i ρ hi hI => by
      obtain ⟨us, ts, v3, rfl, hv3, hus, hlt, htt⟩ := hI
      obtain ⟨m, y1, hm, g1, d1⟩ := e_pickM (fun m : Bool => D.str (sgS m)) [true, false] hus (by simp) (by simp) (by omega)
      obtain ⟨r, y2, g2, lr, sr, d2⟩ := e_line d1 (n := n + 1) (M := 99) (by decide) (by decide) (by omega)
      have g2 : m__law_line (.own true y1) [.int ((n : Int) + 1), .int 99] = .ok (rowD r) (.own true y2) := g2
      have g1 : m__law_pick (.own true us) [.lst [.str (Str.ofString "more"), .str (Str.ofString "least")]] = .ok (.str (sgS m)) (.own true y1) := g1
      have hsz : ts.length < 16777216 := by omega
      have ht : tupD [.str (sgS m), rowD r] = .ok (tstD (Tst.mk m r)) := rfl
      refine ⟨[.own true y2, .val (strsT ns), v2, .val (.int i), .val (.int n), .own false (rows.map rowD), .own false ((ts ++ [Tst.mk m r]).map tstD), v7], ?_, y2, _, _, rfl, rfl, d2.mono (by omega), by simp [hlt], fun t ht => ?_⟩
      · simp [turnF, y2__law_wide_loop, hv3, lstD_of, sizeLine_eq, g1, g2, hsz, ht]
      · rcases List.mem_append.mp ht with ht | ht
        · exact htt t ht
        · rw [List.mem_singleton.mp ht]; exact ⟨lr, sr⟩)
  refine ⟨⟨ns, rows, ts⟩, us, ?_, ⟨fun e => ?_, by show ns.length ≤ 3; omega, dn, okn, by show rows.length = ns.length; omega, fun i r hr => ?_, fun e => ?_, by show ts.length ≤ 4; omega, fun t ht => ?_⟩, hus.mono (by omega)⟩
  · have rn1 := rangeN n (by omega)
    have rn2 := rangeZ (i := 1 + (c : Int)) (n := 1 + c) (by omega) (by omega)
    have h1 : tupleD [.lst (ns.map .str)] = .ok (strsT ns) := rfl
    have h2 : lenD [strsT ns] = .ok (.int n) := by rw [hn]; simp
    have h3 : tupleD [.lst (rows.map rowD)] = .ok (rowsD rows) := rfl
    have h4 : tupleD [.lst (ts.map tstD)] = .ok (tstsD ts) := rfl
    simp only [List.map_cons, List.map_nil] at e1
    unfold m__law_wide_loop b__law_wide_loop f1__law_wide_loop f2__law_wide_loop runI
    simp [e1, e2, hz, h1, h2, h3, h4, lstD_of, sizeLine_eq, xParM, mMV, mMN, mMNil, putMs, rn1, f1, e3, rn2, f2, mDict]
    rfl
  · have e' : ns = [] := e
    rw [e'] at ln; simp at ln; omega
  · show StepOk ns.length i r
    rw [← hn]; exact hst i r hr
  · have e' : ts = [] := e
    rw [e'] at hlt; simp at hlt; omega
  · show TstOk ns.length t
    rw [← hn]; exact htt t ht
end Pm
/-! LT: tests that fail, rounds, leaving. -/
namespace Pm
open PySem PySem.Spec PyProof.Rows L2 Mr
def Tst.holds (t : Tst) (X : List Int) : Bool := if t.more then decide (dot t.f X > 0) else decide (dot t.f X ≥ 0)
theorem e_does_hold {m : Bool} {v : Int} : m_does_hold [.str (sgS m), .int v] = .ok (.bl (if m then decide (v > 0) else decide (v ≥ 0))) := by
  unfold m_does_hold b_does_hold runF
  have e : eqD (.str (sgS m)) (.str c_MORE) = .ok (.bl m) := by cases m <;> kernel_rfl
  cases m <;> simp [e]
theorem e_does_hold' {t : Tst} {X : List Int} : m_does_hold [.str (sgS t.more), .int (dot t.f X)] = .ok (.bl (t.holds X)) := e_does_hold
def Lp.bads (l : Lp) (X : List Int) : List (Nat × Tst) := ((List.range l.tests.length).zip l.tests).filter fun p => !p.2.holds X
def Lp.bad (l : Lp) (X : List Int) : List Nat := (l.bads X).map (·.1)
theorem bad_nil {l : Lp} {X : List Int} : l.bad X = [] ↔ ∀ t ∈ l.tests, t.holds X = true := by
  unfold Lp.bad Lp.bads
  rw [List.map_eq_nil_iff, List.filter_eq_nil_iff]
  constructor
  · intro h t ht
    obtain ⟨i, hi, rfl⟩ := List.getElem_of_mem ht
    have := h (i, l.tests[i]) (List.mem_of_getElem? (i := i) (by rw [List.getElem?_zip_eq_some]; exact ⟨by simp [hi], List.getElem?_eq_getElem hi⟩))
    simpa using this
  · intro h p hp
    simp [h _ (List.of_mem_zip hp).2]
theorem enum_tests {l : Lp} : enumD [tstsD l.tests] = .ok (((List.range l.tests.length).zip l.tests).map fun p => .tup [.int p.1, tstD p.2]) := by
  show FR.ok (enumL (l.tests.map tstD)) = _
  unfold enumL
  rw [List.length_map, List.zipWith_map_right, List.zip, List.map_zipWith]
theorem LpOk.test_mem {l : Lp} (h : LpOk l) {t : Tst} (ht : t ∈ l.tests) : t.f.length ≤ 4 ∧ ∀ x ∈ t.f, Sz 7 x := by
  have := h.ts t ht
  have n3 := h.n3
  exact ⟨by have := this.len; omega, this.sm.sz (by unfold Sz; decide)⟩
theorem opt_filter {α β : Type} (p : α → Bool) (g : α → β) : ∀ l : List α, l.filterMap (fun x => if p x = true then some (g x) else none) = (l.filter p).map g
  | [] => rfl
  | x :: l => by
    rw [List.filterMap_cons, List.filter_cons, opt_filter p g l]
    cases p x <;> simp
theorem e_failing_at {l : Lp} {a : Nat} {X : List Int} (h : LpOk l) (hX : ∀ x ∈ X, Sz a x) (ha : a ≤ 100000000) : m_failing_at [lpD l, rowD X] = .ok (.lst ((l.bad X).map fun (k : Nat) => .int k)) := by
  have t4 := h.t4
  have hq : q1_failing_at [.val (lpD l), .val (rowD X), .val (tstsD l.tests), .un, .un, .un] = .ok ((l.bad X).map fun (k : Nat) => .int k) [.val (lpD l), .val (rowD X), .val (tstsD l.tests), .un, .un, .un] := by
    unfold q1_failing_at
    simp [enum_tests]
    rw [lcM_opt (fun p : Nat × Tst => D.tup [.int p.1, tstD p.2]) _ (fun p => if (!p.2.holds X) = true then some (.int p.1) else none) rfl (by rw [sizeLine_eq]; simp; omega) fun p hp => by
      obtain ⟨s1, s2⟩ := h.test_mem (List.of_mem_zip hp).2
      have hv := e_value_at (xs := p.2.f) (ys := X) (by omega) s2 hX (by omega)
      cases hb : p.2.holds X <;> simp [turnO, tstD, e1_failing_at, hv, e_does_hold', hb]]
    rw [opt_filter]
    simp [Lp.bad, Lp.bads]
  unfold m_failing_at b_failing_at runF
  simp [hq]
theorem e_failing {l : Lp} {X : List Int} (h : LpOk l) (hX : StartOk l.n X) : m_failing [lpD l, rowD X] = .ok (.tup ((l.bad X).map fun (k : Nat) => .int k)) := by
  unfold m_failing b_failing runF
  simp [e_require_loop, e_require_start hX h.n3, e_failing_at h hX.sz (by decide)]
def Lp.ok (l : Lp) (X : List Int) : Bool := l.tests.all (·.holds X)
theorem ok_nil {l : Lp} {X : List Int} : l.ok X = true ↔ l.bad X = [] := by
  unfold Lp.ok
  rw [List.all_eq_true, bad_nil]
theorem bad_len {l : Lp} {X : List Int} (h : LpOk l) : (l.bad X).length ≤ 4 := by
  unfold Lp.bad Lp.bads
  have := h.t4
  have e := List.length_filter_le (fun p : Nat × Tst => !p.2.holds X) ((List.range l.tests.length).zip l.tests)
  rw [List.length_zip, List.length_range] at e
  rw [List.length_map]
  omega
theorem e_holds {l : Lp} {X : List Int} (h : LpOk l) (hX : StartOk l.n X) : m_holds [lpD l, rowD X] = .ok (.bl (l.ok X)) := by
  have e : eqD (.tup ((l.bad X).map fun (k : Nat) => .int k)) (.tup []) = .ok (.bl (l.ok X)) := by
    cases hb : l.bad X with
    | nil =>
      rw [ok_nil.mpr hb]; rfl
    | cons k ks =>
      have : l.ok X = false := by
        cases ho : l.ok X with
        | false => rfl
        | true => rw [ok_nil.mp ho] at hb; cases hb
      rw [this]
      unfold eqD
      rw [if_pos ⟨by simp, by simp⟩]
      rfl
  unfold m_holds b_holds runF
  simp [e_failing h hX, e, tupD_of, sizeLine_eq]
theorem sg_more {m : Bool} : eqD (.str (sgS m)) (.str (Str.ofString "more")) = .ok (.bl m) := by cases m <;> kernel_rfl
theorem passes_run {l : Lp} {a : Nat} {X : List Int} (hX : ∀ x ∈ X, Sz a x) (ha : a ≤ 100000000) : ∀ (ts : List Tst), (∀ t ∈ ts, t.f.length ≤ 4 ∧ ∀ x ∈ t.f, Sz 7 x) → ∀ {v2 v3 v4 : SV}, v2.isIo = false → v3.isIo = false → v4.isIo = false →
    ∃ ρ', forM (.tp [.sl 2, .sl 3]) y1__law_passes (ts.map tstD) [.val (dictD l), .val (rowD X), v2, v3, v4] = .ok (if ts.all (·.holds X) = true then .nx else .rt (.bl false)) ρ'
  | [], _, v2, v3, v4, _, _, _ => ⟨_, by simp; rfl⟩
  | t :: ts, ht, v2, v3, v4, h2, h3, h4 => by
    obtain ⟨s1, s2⟩ := ht t (List.mem_cons_self ..)
    have hv := e_amount (xs := t.f) (ys := X) (by omega) s2 hX (by omega)
    have hy : y1__law_passes [.val (dictD l), .val (rowD X), .val (.str (sgS t.more)), .val (rowD t.f), v4] = .ok (if t.holds X = true then .nx else .rt (.bl false)) [.val (dictD l), .val (rowD X), .val (.str (sgS t.more)), .val (rowD t.f), .val (.int (dot t.f X))] := by
      unfold y1__law_passes
      simp [hv, h4, sg_more]
      unfold Tst.holds
      rcases Int.lt_trichotomy (dot t.f X) 0 with c | c | c
      · have c1 : ¬ dot t.f X > 0 := by omega
        have c2 : ¬ dot t.f X ≥ 0 := by omega
        have c3 : ¬ dot t.f X = 0 := by omega
        simp [c, c1, c2, c3]
      · cases hm : t.more <;> simp [c]
      · have c1 : dot t.f X ≥ 0 := by omega
        have c2 : ¬ dot t.f X < 0 := by omega
        have c3 : ¬ dot t.f X = 0 := by omega
        simp [c, c1, c2, c3]
    obtain ⟨ρ', e⟩ := passes_run (l := l) hX ha ts (fun q hq => ht q (List.mem_cons_of_mem _ hq)) (v2 := .val (.str (sgS t.more))) (v3 := .val (rowD t.f)) (v4 := .val (.int (dot t.f X))) rfl rfl rfl
    cases hb : t.holds X with
    | true =>
      refine ⟨ρ', ?_⟩
      rw [hb] at hy
      rw [List.map_cons, ap_forC]
      simp [tstD, h2, h3, hy]
      simpa [hb] using e
    | false =>
      refine ⟨[.val (dictD l), .val (rowD X), .val (.str (sgS t.more)), .val (rowD t.f), .val (.int (dot t.f X))], ?_⟩
      rw [hb] at hy
      rw [List.map_cons, ap_forC]
      simp [tstD, h2, h3, hy, hb]
theorem e_passes {l : Lp} {a : Nat} {X : List Int} (h : LpOk l) (hX : ∀ x ∈ X, Sz a x) (ha : a ≤ 100000000) : m__law_passes [dictD l, rowD X] = .ok (.bl (l.ok X)) := by
  obtain ⟨ρ', e⟩ := passes_run (l := l) hX ha l.tests (fun t ht => h.test_mem ht) (v2 := .un) (v3 := .un) (v4 := .un) rfl rfl rfl
  obtain ⟨b, hb⟩ : ∃ b, l.tests.all (fun t => t.holds X) = b := ⟨_, rfl⟩
  rw [hb] at e
  have hk : l.ok X = b := hb
  rw [hk]
  unfold m__law_passes b__law_passes f1__law_passes runF
  cases b <;> simp [e]
/-! ### rounds -/
def Lp.at (l : Lp) : Nat → List Int → List Int
  | 0, X => X
  | k + 1, X => l.at k (l.next X)
theorem at_succ {l : Lp} : ∀ (k : Nat) (X : List Int), l.at (k + 1) X = l.next (l.at k X)
  | 0, _ => rfl
  | k + 1, X => at_succ k (l.next X)
theorem at_sz {l : Lp} {a : Nat} (h : LpOk l) : ∀ (k : Nat) {X : List Int}, (∀ x ∈ X, Sz a x) → ∀ x ∈ l.at k X, Sz (a + 7 * k) x
  | 0, X, hX => hX
  | k + 1, X, hX => fun x hx => by
    rw [at_succ] at hx
    exact (next_sz h (at_sz h k hX) x hx).mono (by omega)
theorem at_start {l : Lp} {a : Nat} (h : LpOk l) {X : List Int} (hs : StartOk l.n X) (hX : ∀ x ∈ X, Sz a x) : ∀ (k : Nat), a + 7 * k ≤ 600 → StartOk l.n (l.at k X)
  | 0, _ => hs
  | k + 1, hk => by
    rw [at_succ]
    exact next_start h (at_start h hs hX k (by omega)) fun x hx => (next_sz h (at_sz h k hX) x hx).mono (by omega)
/-- how many rounds until a test fails, of fewer than n -/
def Lp.first (l : Lp) : Nat → List Int → Option Nat
  | 0, _ => none
  | n + 1, X => if l.ok X = true then (l.first n (l.next X)).map (· + 1) else some 0
theorem first_lt {l : Lp} : ∀ {n : Nat} {X : List Int} {d : Nat}, l.first n X = some d → d < n
  | 0, X, d, h => by cases h
  | n + 1, X, d, h => by
    unfold Lp.first at h
    split at h
    · obtain ⟨e, h1, rfl⟩ := Option.map_eq_some_iff.mp h
      have := first_lt h1; omega
    · cases h; omega
theorem first_more {l : Lp} : ∀ {n m : Nat} {X : List Int} {d : Nat}, l.first n X = some d → n ≤ m → l.first m X = some d
  | 0, _, X, d, h, _ => by cases h
  | n + 1, 0, X, d, h, hm => by omega
  | n + 1, m + 1, X, d, h, hm => by
    unfold Lp.first at h ⊢
    split
    · rename_i c
      rw [if_pos c] at h
      obtain ⟨e, h1, rfl⟩ := Option.map_eq_some_iff.mp h
      rw [first_more h1 (by omega)]; rfl
    · rename_i c
      rw [if_neg c] at h
      exact h
theorem first_none {l : Lp} : ∀ {n : Nat} {X : List Int} {d : Nat}, l.first n X = some d → l.first d X = none
  | 0, X, d, h => by cases h
  | n + 1, X, d, h => by
    unfold Lp.first at h
    split at h
    · rename_i c
      obtain ⟨e, h1, rfl⟩ := Option.map_eq_some_iff.mp h
      unfold Lp.first
      rw [if_pos c, first_none h1]; rfl
    · cases h; rfl
theorem first_next {l : Lp} {n : Nat} {X : List Int} {d : Nat} (h : l.first n X = some (d + 1)) : l.first n (l.next X) = some d := by
  cases n with
  | zero => cases h
  | succ n =>
    unfold Lp.first at h
    split at h
    · obtain ⟨e, h1, h2⟩ := Option.map_eq_some_iff.mp h
      have : e = d := by omega
      rw [this] at h1
      exact first_more h1 (by omega)
    · cases h
def oD : Option Nat → D
  | none => .non
  | some k => .int k
theorem e_require_rounds {r : Nat} (h : r ≤ 400) : m_require_rounds [.int r] = .ok .non := by
  have h1 : (r : Int) ≤ c_MAX_ROUNDS := by unfold c_MAX_ROUNDS; omega
  unfold m_require_rounds b_require_rounds runF
  simp [e_is_integer (i := (r : Int)) (Sz.mono (a := 64) (sz_small (by omega) (by omega)) (by decide)), h1]
theorem moments_turn {l : Lp} {a i : Nat} {X : List Int} {v2 v4 : SV} (h : LpOk l) (hX : ∀ x ∈ X, Sz a x) (ha : a + 7 * i ≤ 1000000) (h4 : v4.isIo = false) :
    turnF (.sl 4) y1_moments [.val (lpD l), .val (rowD X), v2, .own false ((List.range (i + 1)).map fun k => rowD (l.at k X)), v4] (.int i) = .ok .nx [.val (lpD l), .val (rowD X), v2, .own false ((List.range (i + 1 + 1)).map fun k => rowD (l.at k X)), .val (.int i)] := by
  have e1 : atI ((List.range (i + 1)).map fun k => rowD (l.at k X)) (-1) = some (rowD (l.at i X)) := by
    unfold atI
    rw [List.length_map, List.length_range, show ixN (i + 1) (-1) = some i by unfold ixN; simp; omega]
    simp
  have e2 := e_led_by h (at_sz h i hX) (by omega)
  rw [← at_succ] at e2
  have hl : ((List.range (i + 1)).map fun k => rowD (l.at k X)).length < sizeLine := by rw [sizeLine_eq]; simp; omega
  obtain ⟨L, hL⟩ : ∃ L, L = (List.range (i + 1)).map fun k => rowD (l.at k X) := ⟨_, rfl⟩
  have e3 : ((List.range (i + 1 + 1)).map fun k => rowD (l.at k X)) = L ++ [rowD (l.at (i + 1) X)] := by
    rw [List.range_succ, List.map_append, hL]; rfl
  rw [e3]
  rw [← hL] at e1 hl ⊢
  simp [turnF, y1_moments, h4, mApp, mIxN, e1, e2, hl]
theorem e_moments {l : Lp} {a r : Nat} {X : List Int} (h : LpOk l) (hs : StartOk l.n X) (hX : ∀ x ∈ X, Sz a x) (ha : a ≤ 600) (hr : r ≤ 400) : m_moments [lpD l, rowD X, .int r] = .ok (rowsD ((List.range (r + 1)).map fun k => l.at k X)) := by
  obtain ⟨ρ', f, v4, rfl, h4⟩ := forM_range (t := .sl 4) (body := y1_moments)
    (I := fun i ρ => ∃ v4, ρ = [.val (lpD l), .val (rowD X), .val (.int r), .own false ((List.range (i + 1)).map fun k => rowD (l.at k X)), v4] ∧ SV.isIo v4 = false) r [.val (lpD l), .val (rowD X), .val (.int r), .own false [rowD X], .un] ⟨_, rfl, rfl⟩ (fun i ρ hi hI => by
      obtain ⟨v4, rfl, h4⟩ := hI
      exact ⟨_, moments_turn h hX (by omega) h4, _, rfl, rfl⟩)
  have rn := rangeN r (by omega)
  unfold m_moments b_moments f1_moments runF
  simp [e_require_loop, e_require_start hs h.n3, e_require_rounds hr, mLstN, sizeLine_eq, rn, f]
  show _ = D.tup _
  rw [List.map_map]; rfl
theorem enum_at {l : Lp} {r : Nat} {X : List Int} : enumD [rowsD ((List.range (r + 1)).map fun k => l.at k X)] = .ok ((List.range (r + 1)).map fun (k : Nat) => .tup [.int ((0 : Nat) + k : Nat), rowD (l.at k X)]) := by
  show FR.ok (enumL (((List.range (r + 1)).map fun k => l.at k X).map rowD)) = _
  unfold enumL
  rw [List.length_map, List.length_map, List.length_range, List.map_map, List.zipWith_map_right, List.zipWith_self]
  congr 1
  refine List.map_congr_left fun k _ => ?_
  rw [Nat.zero_add]; rfl
theorem leaves_run {l : Lp} {v1 v2 : SV} (h : LpOk l) : ∀ (n i : Nat) (a : Nat) {X : List Int} {v3 v4 : SV}, (∀ x ∈ X, Sz a x) → a + 7 * n ≤ 1000000 → v3.isIo = false → v4.isIo = false →
    ∃ ρ', forM (.tp [.sl 3, .sl 4]) y1_leaves_within ((List.range n).map fun (k : Nat) => .tup [.int (i + k : Nat), rowD (l.at k X)]) [.val (lpD l), v1, v2, v3, v4] = .ok (match l.first n X with | none => .nx | some d => .rt (.int (i + d : Nat))) ρ'
  | 0, i, a, X, v3, v4, _, _, _, _ => ⟨_, by simp [Lp.first]; rfl⟩
  | n + 1, i, a, X, v3, v4, hX, ha, h3, h4 => by
    have e1 := e_failing_at h hX (by omega)
    have e2 : neD (.lst ((l.bad X).map fun (k : Nat) => .int k)) (.lst []) = .ok (.bl (!l.ok X)) := by
      cases hb : l.bad X with
      | nil => rw [ok_nil.mpr hb]; rfl
      | cons k ks =>
        have : l.ok X = false := by
          cases ho : l.ok X with
          | false => rfl
          | true => rw [ok_nil.mp ho] at hb; cases hb
        rw [this]
        unfold neD
        rw [if_pos ⟨by simp, by simp⟩]
        rfl
    have hy : y1_leaves_within [.val (lpD l), v1, v2, .val (.int (i + 0 : Nat)), .val (rowD X)] = .ok (if l.ok X = true then .nx else .rt (.int (i + 0 : Nat))) [.val (lpD l), v1, v2, .val (.int (i + 0 : Nat)), .val (rowD X)] := by
      unfold y1_leaves_within
      cases hb : l.ok X <;> rw [hb] at e2 <;> simp [e1, e2, lstD_of, sizeLine_eq]
    rw [List.range_succ_eq_map, List.map_cons, List.map_map, ap_forC]
    cases hb : l.ok X with
    | true =>
      rw [hb] at hy
      obtain ⟨ρ', e⟩ := leaves_run (v1 := v1) (v2 := v2) h n (i + 1) (a + 7) (v3 := .val (.int (i + 0 : Nat))) (v4 := .val (rowD X)) (fun x hx => (next_sz h hX x hx).mono (by omega)) (by omega) rfl rfl
      refine ⟨ρ', ?_⟩
      have ef : ((fun (k : Nat) => D.tup [.int (i + k : Nat), rowD (l.at k X)]) ∘ Nat.succ) = fun (k : Nat) => .tup [.int (i + 1 + k : Nat), rowD (l.at k (l.next X))] := by
        funext k
        show D.tup [.int (i + (k + 1) : Nat), _] = _
        rw [show i + (k + 1) = i + 1 + k by omega]; rfl
      rw [ef]
      have hf : l.first (n + 1) X = (l.first n (l.next X)).map (· + 1) := by rw [Lp.first, if_pos hb]
      have e0 : putT (.tp [.sl 3, .sl 4]) (D.tup [.int (i + 0 : Nat), rowD (l.at 0 X)]) [.val (lpD l), v1, v2, v3, v4] = .ok () [.val (lpD l), v1, v2, .val (.int (i + 0 : Nat)), .val (rowD X)] := by simp [h3, h4, Lp.at]
      rw [e0, R.bind_ok, hy, R.bind_ok, hf]
      show forM _ _ _ _ = _
      rw [e]
      cases l.first n (l.next X) with
      | none => rfl
      | some d => show R.ok (Fl.rt (D.int _)) _ = R.ok (Fl.rt (D.int _)) _; rw [show i + 1 + d = i + (d + 1) by omega]
    | false =>
      rw [hb] at hy
      have hf : l.first (n + 1) X = some 0 := by rw [Lp.first, if_neg (by simp [hb])]
      have e0 : putT (.tp [.sl 3, .sl 4]) (D.tup [.int (i + 0 : Nat), rowD (l.at 0 X)]) [.val (lpD l), v1, v2, v3, v4] = .ok () [.val (lpD l), v1, v2, .val (.int (i + 0 : Nat)), .val (rowD X)] := by simp [h3, h4, Lp.at]
      exact ⟨_, by rw [e0, R.bind_ok, hy, R.bind_ok, hf]; rfl⟩
theorem e_leaves {l : Lp} {a r : Nat} {X : List Int} (h : LpOk l) (hs : StartOk l.n X) (hX : ∀ x ∈ X, Sz a x) (ha : a ≤ 600) (hr : r ≤ 400) : m_leaves_within [lpD l, rowD X, .int r] = .ok (oD (l.first (r + 1) X)) := by
  obtain ⟨ρ', f⟩ := leaves_run (v1 := .val (rowD X)) (v2 := .val (.int r)) h (r + 1) 0 a (v3 := .un) (v4 := .un) hX (by omega) rfl rfl
  unfold m_leaves_within b_leaves_within f1_leaves_within runF
  simp only [ap_Seq, ap_For]
  obtain ⟨L, hL⟩ : ∃ L, L = (List.range (r + 1)).map fun (k : Nat) => D.tup [.int ((0 : Nat) + k : Nat), rowD (l.at k X)] := ⟨_, rfl⟩
  have e2 : enumD [rowsD ((List.range (r + 1)).map fun k => l.at k X)] = .ok L := by rw [hL]; exact enum_at
  rw [← hL] at f
  simp [e_moments h hs hX ha hr, e2, f]
  cases l.first (r + 1) X with
  | none => rfl
  | some d => simp [oD]
theorem run_run {l : Lp} {v2 : SV} (h : LpOk l) : ∀ (n i : Nat) (a : Nat) {X : List Int} {v3 : SV}, StartOk l.n X → (∀ x ∈ X, Sz a x) → a + 7 * n ≤ 600 → v3.isIo = false →
    ∃ ρ', forM (.sl 3) y1__law_run_to ((List.range n).map fun (k : Nat) => .int (i + k : Nat)) [.val (dictD l), .val (rowD X), v2, v3] = .ok (match l.first n X with | none => .nx | some d => .rt (.int (i + d : Nat))) ρ'
  | 0, i, a, X, v3, _, _, _, _ => ⟨_, by simp [Lp.first]; rfl⟩
  | n + 1, i, a, X, v3, hs, hX, ha, h3 => by
    have e1 := e_passes h hX (by omega)
    have e2 := e_lnext h hs hX (by omega)
    have nX : ∀ x ∈ l.next X, Sz (a + 7) x := fun x hx => (next_sz h hX x hx).mono (by omega)
    have hy : y1__law_run_to [.val (dictD l), .val (rowD X), v2, .val (.int (i + 0 : Nat))] = .ok (if l.ok X = true then .nx else .rt (.int (i + 0 : Nat))) [.val (dictD l), .val (rowD (if l.ok X = true then l.next X else X)), v2, .val (.int (i + 0 : Nat))] := by
      unfold y1__law_run_to
      cases hb : l.ok X <;> rw [hb] at e1 <;> simp [e1, e2]
    have e0 : putT (.sl 3) (.int (i + 0 : Nat)) [.val (dictD l), .val (rowD X), v2, v3] = .ok () [.val (dictD l), .val (rowD X), v2, .val (.int (i + 0 : Nat))] := by simp [h3]
    rw [List.range_succ_eq_map, List.map_cons, List.map_map, ap_forC]
    cases hb : l.ok X with
    | true =>
      rw [hb, if_pos rfl, if_pos rfl] at hy
      obtain ⟨ρ', e⟩ := run_run (v2 := v2) h n (i + 1) (a + 7) (v3 := .val (.int (i + 0 : Nat))) (next_start h hs fun x hx => (nX x hx).mono (by omega)) nX (by omega) rfl
      refine ⟨ρ', ?_⟩
      have ef : ((fun (k : Nat) => D.int (i + k : Nat)) ∘ Nat.succ) = fun (k : Nat) => .int (i + 1 + k : Nat) := by
        funext k
        show D.int (i + (k + 1) : Nat) = _
        rw [show i + (k + 1) = i + 1 + k by omega]
      rw [ef]
      have hf : l.first (n + 1) X = (l.first n (l.next X)).map (· + 1) := by rw [Lp.first, if_pos hb]
      rw [e0, R.bind_ok, hy, R.bind_ok, hf]
      show forM _ _ _ _ = _
      rw [e]
      cases l.first n (l.next X) with
      | none => rfl
      | some d => show R.ok (Fl.rt (D.int _)) _ = R.ok (Fl.rt (D.int _)) _; rw [show i + 1 + d = i + (d + 1) by omega]
    | false =>
      rw [hb, if_neg (by decide), if_neg (by decide)] at hy
      have hf : l.first (n + 1) X = some 0 := by rw [Lp.first, if_neg (by simp [hb])]
      exact ⟨_, by rw [e0, R.bind_ok, hy, R.bind_ok, hf]⟩
theorem e_run_to {l : Lp} {a n : Nat} {X : List Int} (h : LpOk l) (hs : StartOk l.n X) (hX : ∀ x ∈ X, Sz a x) (ha : a + 7 * n ≤ 600) : m__law_run_to [dictD l, rowD X, .int n] = .ok (oD (l.first n X)) := by
  obtain ⟨ρ', f⟩ := run_run (v2 := .val (.int n)) h n 0 a (v3 := .un) hs hX ha rfl
  have rn : range1D [.int n] = .ok ((List.range n).map fun (k : Nat) => D.int (0 + k : Nat)) := by rw [rangeN n (by omega)]; simp
  obtain ⟨L, hL⟩ : ∃ L, L = (List.range n).map fun (k : Nat) => D.int (0 + k : Nat) := ⟨_, rfl⟩
  rw [← hL] at f rn
  unfold m__law_run_to b__law_run_to f1__law_run_to runF
  simp [rn, f]
  cases l.first n X with
  | none => rfl
  | some d => simp [oD]
end Pm
/-! LV: the loops and starts that most laws draw. -/
namespace Pm
open PySem PySem.Spec PyProof.Rows L2 Mr
theorem cut_init {xs : List D} (h : xs ≠ []) : Mr.cutD xs none (some (-1)) = xs.take (xs.length - 1) := by
  have hl := List.length_pos_iff.mpr h
  unfold Mr.cutD
  have e1 : HT.sIx xs.length 0 none = 0 := rfl
  have e2 : HT.sIx xs.length xs.length (some (-1)) = xs.length - 1 := by
    unfold HT.sIx
    simp
    omega
  rw [e1, e2]; simp
theorem slice_init {r : List Int} (h : r ≠ []) : sliceD (rowD r) none (some (-1)) = .ok (rowD (r.take (r.length - 1))) := by
  rw [slice_row, cut_init (by simpa using h), List.length_map, ← List.map_take]; rfl
theorem draw_at {vs : List Nat} {t : Tg} {el : M D} {rest : Ro} {P : Nat → D → Prop} {cost : Nat} (hpl : ∀ xs, plainR (.own true xs :: rest) vs = true) : ∀ (ds acc : List D) (m : Nat) (xs : List D) (b : Nat), Bowl b xs → ds.length + acc.length ≤ 1000000 →
    (∀ i d, ds[i]? = some d → ∀ xs b', b' + cost ≤ b + cost * ds.length → Bowl b' xs → ∃ y ys, turnM vs t el (.own true xs :: rest) d = .ok y (.own true ys :: rest) ∧ P (m + i) y ∧ Bowl (b' + cost) ys) →
    ∃ l ys, lcM vs t tYesM el ds acc (.own true xs :: rest) = .ok (acc ++ l) (.own true ys :: rest) ∧ l.length = ds.length ∧ (∀ i y, l[i]? = some y → P (m + i) y) ∧ Bowl (b + cost * ds.length) ys
  | [], acc, m, xs, b, hB, _, _ => ⟨[], xs, by simp [lcM], rfl, by simp, by simpa using hB⟩
  | d :: ds, acc, m, xs, b, hB, hl, h => by
    rw [List.length_cons] at hl h
    have hc : cost * (ds.length + 1) = cost * ds.length + cost := by rw [Nat.mul_add, Nat.mul_one]
    rw [hc] at h
    obtain ⟨y, ys, e, py, hy⟩ := h 0 d rfl xs b (by omega) hB
    obtain ⟨ρ1, ρ3, e1, e2, e3, e4⟩ := turnM_ok e
    obtain ⟨l, zs, f, ll, pl, hz⟩ := draw_at (P := P) (cost := cost) hpl ds (acc ++ [y]) (m + 1) ys (b + cost) hy (by rw [List.length_append, List.length_singleton]; omega) fun i d hd xs b' hb' hB' => by
      obtain ⟨y, ys, e, py, hy⟩ := h (i + 1) d hd xs b' (by omega) hB'
      exact ⟨y, ys, e, by rw [show m + 1 + i = m + (i + 1) by omega]; exact py, hy⟩
    refine ⟨y :: l, zs, ?_, by simp [ll], fun i z hz => ?_, by rw [List.length_cons, hc, show b + (cost * ds.length + cost) = b + cost + cost * ds.length by omega]; exact hz⟩
    · rw [lcM, if_pos (hpl _), e1, R.bind_ok, ap_tYes, R.bind_ok, if_pos rfl, e2, R.bind_ok, if_pos ⟨by rw [sizeLine_eq]; omega, e3⟩, e4, f]
      simp
    · cases i with
      | zero => cases hz; exact py
      | succ i =>
        have := pl i z hz
        rw [show m + (i + 1) = m + 1 + i by omega]; exact this
theorem e_words {xs : List D} {b : Nat} (h : Bowl b xs) (hb : b < 500000) : ∃ (ns : List Str) (ys : List D), m__law_words (.own true xs) [.int 3] = .ok (strsT ns) (.own true ys) ∧ 1 ≤ ns.length ∧ ns.length ≤ 3 ∧ ns.Nodup ∧ (∀ x ∈ ns, NameOk x) ∧ Bowl (b + 7) ys := by
  obtain ⟨ds, x1, e1, p1, b1⟩ := e_dealtL (ds := [Str.ofString "x", Str.ofString "y", Str.ofString "z", Str.ofString "a", Str.ofString "total", Str.ofString "zzzzzzzz"].map D.str) h (by simp) (by omega)
  obtain ⟨j, x2, hj, e2, b2⟩ := e_pickM (fun k : Nat => D.int k) [1, 2, 2, 3] b1 (by simp) (by simp) (by simp; omega)
  have hj : 1 ≤ j ∧ j ≤ 3 := by
    simp only [List.mem_cons, List.not_mem_nil, or_false] at hj
    omega
  obtain ⟨ns, en, ln, dn, okn⟩ := names_of p1 (by decide +kernel) (by
    intro x hx
    simp only [List.mem_cons, List.not_mem_nil, or_false] at hx
    rcases hx with rfl | rfl | rfl | rfl | rfl | rfl
    · exact nm_x
    · exact nm_y
    · exact nm_z
    · exact nm_a
    · exact nm_total
    · exact nm_zz) j hj.1 (by simp; omega)
  have hz : sliceD (.lst ds) none (some (j : Int)) = .ok (.lst (ns.map .str)) := by
    show FR.ok (D.lst (Mr.cutD ds none (some (j : Int)))) = _
    rw [cut_take, en]
  refine ⟨ns, x2, ?_, by omega, by omega, dn, okn, b2.mono (by simp)⟩
  have h1 : tupleD [.lst (ns.map .str)] = .ok (strsT ns) := rfl
  have e2 : m__law_pick (.own true x1) [.lst [.int 1, .int 2, .int 2, .int 3]] = .ok (.int j) (.own true x2) := e2
  simp only [List.map_cons, List.map_nil] at e1
  unfold m__law_words b__law_words runI
  simp [lstD_of, sizeLine_eq, e1, e2, hz, h1]
def intsL (r : List Int) : D := .lst (r.map .int)
theorem e_move {xs : List D} {b n i : Nat} {w : List Int} (h : Bowl b xs) (hb : b < 500000) (hi : i < n) (hn : n ≤ 3) (hw : w ≠ []) (lw : w.length ≤ 100) (sw : ∀ x ∈ w, -9 ≤ x ∧ x ≤ 9) : ∃ (r : List Int) (ys : List D), m__law_move (.own true xs) [.int n, .int i, intsL w] = .ok (rowD r) (.own true ys) ∧ StepOk n i r ∧ Bowl (b + 7) ys := by
  obtain ⟨r, y1, g1, lr, sr, c1⟩ := e_line h (n := i + 1) (M := 2) (by decide) (by decide) (by omega)
  have g1 : m__law_line (.own true xs) [.int ((i : Int) + 1), .int 2] = .ok (rowD r) (.own true y1) := g1
  obtain ⟨o, y2, ho, g2, c2⟩ := e_pickM D.int w c1 hw (by omega) (by omega)
  have g3 := mul_zeroZ (i := (n : Int) - i - 1) (n := n - i - 1) (by omega) (by omega)
  have g4 := add_row1 (a := r) (x := o) (by omega)
  have g5 := add_row (a := r ++ [o]) (b := List.replicate (n - i - 1) 0) (by simp; omega)
  refine ⟨r ++ [o] ++ List.replicate (n - i - 1) 0, y2, ?_, step_of hi lr (sr.mono (by decide)) (sw o ho), c2.mono (by omega)⟩
  unfold m__law_move b__law_move runI
  unfold intsL
  simp [g1, g2, g3, g4, g5, tupD_of, sizeLine_eq]
noncomputable def chk_if : M Fl := (xIf (tAnd (tOf (m2 eqD (mOfN q1__law_check) (mL lstD mNil))) (tOf (m2 gtD (mIo m__law_bit 1 0 (mCons (mC (.int 6)) mNil)) (mC (.int 0))))) (xPut (.sl 2) (m2 addD (mSlice (mVar 2) mONone (mOSome (m1 negD (mC (.int 1))))) (mL tupD (mCons (mIo m__law_pick 1 0 (mCons (mL lstD (mCons (mC (.int 1)) (mCons (m1 negD (mC (.int 1))) mNil))) mNil)) mNil)))) xNx)
theorem chk_body : b__law_check = (xSeq (xPut (.sl 2) (m2 addD (mIo m__law_line 2 0 (mCons (mC (.int 1)) (mCons (mC (.int 3)) mNil))) (mIo m__law_line 2 0 (mCons (mVar 1) (mCons (mC (.int 2)) mNil)))))
  (xSeq chk_if
  (xRet (mL tupD (mCons (mIo m__law_pick 1 0 (mCons (mL lstD (mCons (mC (.str (Str.ofString "more"))) (mCons (mC (.str (Str.ofString "more"))) (mCons (mC (.str (Str.ofString "least"))) mNil)))) mNil)) (mCons (mVar 2) mNil)))))) := id rfl
theorem e_check {xs : List D} {b n : Nat} (h : Bowl b xs) (hb : b < 500000) (h0 : 1 ≤ n) (hn : n ≤ 3) : ∃ (t : Tst) (ys : List D), m__law_check (.own true xs) [.int n] = .ok (tstD t) (.own true ys) ∧ TstOk n t ∧ Bowl (b + 11) ys := by
  obtain ⟨r, y1, g1, lr, sr, c1⟩ := e_line h (n := 1) (M := 3) (by decide) (by decide) (by omega)
  obtain ⟨q, y2, g2, lq, sq, c2⟩ := e_line c1 (n := n) (M := 2) (by decide) (by decide) (by omega)
  have g1 : m__law_line (.own true xs) [.int 1, .int 3] = .ok (rowD r) (.own true y1) := g1
  have g2 : m__law_line (.own true y1) [.int n, .int 2] = .ok (rowD q) (.own true y2) := g2
  have g3 := add_row (a := r) (b := q) (by omega)
  have sF : small 99 (r ++ q) := (sr.mono (by decide)).append (sq.mono (by decide))
  obtain ⟨F, hF⟩ : ∃ F, F = r ++ q := ⟨_, rfl⟩
  rw [← hF] at g3 sF
  have lF : F.length = n + 1 := by rw [hF, List.length_append]; omega
  have F0 : F ≠ [] := fun e => by rw [e] at lF; simp at lF
  obtain ⟨F1, hF1⟩ : ∃ F1, F1 = F.drop 1 := ⟨_, rfl⟩
  have lF1 : F1.length ≤ 4 := by rw [hF1, List.length_drop]; omega
  have e1 : sliceD (rowD F) (some 1) none = .ok (rowD F1) := by rw [hF1]; exact slice_drop (k := 1)
  have e2 := slice_init F0
  obtain ⟨Z, hZ⟩ : ∃ Z, Z = F1.filter fun x => x != 0 := ⟨_, rfl⟩
  have hq : q1__law_check [.own true y2, .val (.int n), .val (rowD F), .un] = .ok (Z.map .int) [.own true y2, .val (.int n), .val (rowD F), .un] := by
    unfold q1__law_check
    simp [e1]
    rw [lcM_opt D.int F1 (fun x => if (x != 0) = true then some (.int x) else none) rfl (by rw [sizeLine_eq]; omega) fun x hx => by
      by_cases c : x = 0 <;> simp [turnO, e1__law_check, c]]
    rw [opt_filter]
    simp [hZ]
  have e3 : eqD (.lst (Z.map .int)) (.lst []) = .ok (.bl (Z.isEmpty)) := by
    cases Z with
    | nil => rfl
    | cons z zs =>
      unfold eqD
      rw [if_pos ⟨by simp, by simp⟩]
      rfl
  -- the form as it goes on
  obtain ⟨G, y3, lG, sG, c3, hy⟩ : ∃ (G : List Int) (y3 : List D), G.length = n + 1 ∧ small 99 G ∧ Bowl (b + 10) y3 ∧ chk_if [.own true y2, .val (.int n), .val (rowD F), .un] = .ok .nx [.own true y3, .val (.int n), .val (rowD G), .un] := by
    cases hb : Z.isEmpty with
    | false =>
      refine ⟨F, y2, lF, sF, c2.mono (by omega), ?_⟩
      rw [hb] at e3
      simp [chk_if, hq, lstD_of, sizeLine_eq, e3]
    | true =>
      rw [hb] at e3
      obtain ⟨k, y4, g4, k6, c4⟩ := e_bit c2 (m := 6) (by decide) (by decide) (by omega)
      by_cases k0 : 0 < k
      · obtain ⟨o, y5, ho, g5, c5⟩ := e_pickM D.int [1, -1] c4 (by simp) (by simp) (by omega)
        have g5 : m__law_pick (.own true y4) [.lst [.int 1, .int (-1)]] = .ok (.int o) (.own true y5) := g5
        have g6 := add_row1 (a := F.take (F.length - 1)) (x := o) (by rw [List.length_take]; omega)
        refine ⟨F.take (F.length - 1) ++ [o], y5, by rw [List.length_append, List.length_take]; simp; omega, small.append (fun x hx => sF x (List.mem_of_mem_take hx)) (fun x hx => ?_), c5.mono (by omega), ?_⟩
        · rw [List.mem_singleton.mp hx]
          simp only [List.mem_cons, List.not_mem_nil, or_false] at ho
          omega
        · simp [chk_if, hq, lstD_of, tupD_of, sizeLine_eq, e3, g4, k0, g5, e2, g6]
      · refine ⟨F, y4, lF, sF, c4.mono (by omega), ?_⟩
        simp [chk_if, hq, lstD_of, sizeLine_eq, e3, g4, k0]
  obtain ⟨m, y4, hm, g7, c4⟩ := e_pickM (fun m : Bool => D.str (sgS m)) [true, true, false] c3 (by simp) (by simp) (by omega)
  have g7 : m__law_pick (.own true y3) [.lst [.str (Str.ofString "more"), .str (Str.ofString "more"), .str (Str.ofString "least")]] = .ok (.str (sgS m)) (.own true y4) := g7
  refine ⟨⟨m, G⟩, y4, ?_, ⟨lG, sG⟩, c4.mono (by omega)⟩
  have ht : tupD [.str (sgS m), rowD G] = .ok (tstD (Tst.mk m G)) := rfl
  unfold m__law_check runI
  rw [chk_body]
  simp [g1, g2, g3, hy, lstD_of, sizeLine_eq, g7, ht]
theorem rows_of : ∀ {ys : List D} {P : Nat → List Int → Prop}, (∀ i y, ys[i]? = some y → ∃ r, y = rowD r ∧ P i r) → ∃ rs : List (List Int), ys = rs.map rowD ∧ ∀ i r, rs[i]? = some r → P i r
  | [], _, _ => ⟨[], rfl, by simp⟩
  | y :: ys, P, h => by
    obtain ⟨r, rfl, hr⟩ := h 0 y rfl
    obtain ⟨rs, rfl, hs⟩ := rows_of (P := fun i r => P (i + 1) r) fun i y hy => h (i + 1) y hy
    exact ⟨r :: rs, rfl, fun i q hq => by
      cases i with
      | zero => cases hq; exact hr
      | succ i => exact hs i q hq⟩
def owns : List (List Int) := [[1], [1, 1, 0], [1, -1, 2], [0, 1, -1, 2, -2, 3, -3], [2, -2, 1]]
theorem e_law_loop {xs : List D} {b c : Nat} (h : Bowl b xs) (hb : b < 400000) (h1 : 1 ≤ c) (hc : c ≤ 4) : ∃ (l : Lp) (ys : List D), m__law_loop (.own true xs) [.int 3, .int c] = .ok (dictD l) (.own true ys) ∧ LpOk l ∧ Bowl (b + 100) ys := by
  obtain ⟨ns, x1, e1, n1, n3', dn, okn, b1⟩ := e_words h (by omega)
  obtain ⟨n, hn⟩ : ∃ n, n = ns.length := ⟨_, rfl⟩
  have n3 : n ≤ 3 := by omega
  obtain ⟨w, x2, hw, e2, b2⟩ := e_pickM intsL owns b1 (by decide) (by decide) (by omega)
  have w0 : w ≠ [] ∧ w.length ≤ 100 ∧ ∀ x ∈ w, -9 ≤ x ∧ x ≤ 9 := by
    simp only [owns, List.mem_cons, List.not_mem_nil, or_false] at hw
    rcases hw with rfl | rfl | rfl | rfl | rfl <;> exact ⟨by simp, by decide, by decide⟩
  have e2 : m__law_pick (.own true x1) [.lst [.lst [.int 1], .lst [.int 1, .int 1, .int 0], .lst [.int 1, .int (-1), .int 2], .lst [.int 0, .int 1, .int (-1), .int 2, .int (-2), .int 3, .int (-3)], .lst [.int 2, .int (-2), .int 1]]] = .ok (intsL w) (.own true x2) := e2
  have hl2 : lenD [strsT ns] = .ok (.int n) := by rw [hn]; simp
  -- the steps
  obtain ⟨L1, x3, e3, l3, p3, b3⟩ := draw_at (vs := [8]) (t := .sl 8) (el := e1__law_loop) (rest := [.val (.int 3), .val (.int c), .val (strsT ns), .un, .un, .val (.int n), .val (intsL w), .un, .un]) (P := fun i y => ∃ r, y = rowD r ∧ StepOk n i r) (cost := 7) (fun _ => rfl) ((List.range n).map fun (k : Nat) => D.int k) [] 0 x2 (b + 7 + 1) b2 (by simp; omega)
    (fun i d hd zs b' hb' hz => by
      rw [List.length_map, List.length_range] at hb'
      rw [List.getElem?_map] at hd
      obtain ⟨k, hk, rfl⟩ := Option.map_eq_some_iff.mp hd
      obtain ⟨hl, e⟩ := List.getElem?_eq_some_iff.mp hk
      rw [List.getElem_range] at e
      subst e
      rw [List.length_range] at hl
      obtain ⟨r, ys, e, ok, hy⟩ := e_move hz (by omega) hl n3 w0.1 w0.2.1 w0.2.2
      exact ⟨rowD r, ys, by simp [turnM, e1__law_loop, e], ⟨r, rfl, by rw [Nat.zero_add]; exact ok⟩, hy⟩)
  rw [List.length_map, List.length_range] at l3 b3
  obtain ⟨rows, rfl, hst⟩ := rows_of (P := fun i r => StepOk n i r) fun i y hy => by
    obtain ⟨r, hr, hs⟩ := p3 i y hy
    exact ⟨r, hr, by rw [Nat.zero_add] at hs; exact hs⟩
  rw [List.length_map] at l3
  -- the tests
  obtain ⟨j, x4, e4, j4, b4⟩ := e_bit b3 (m := (c : Int)) (by omega) (by omega) (by omega)
  obtain ⟨L2, x5, e5, l5, p5, b5⟩ := draw_list (vs := [9]) (t := .sl 9) (el := e2__law_loop) (rest := [.val (.int 3), .val (.int c), .val (strsT ns), .val (rowsD rows), .un, .val (.int n), .val (intsL w), .un, .un]) (P := fun y => ∃ t, y = tstD t ∧ TstOk n t) (cost := 11) ((List.range (1 + j)).map fun (k : Nat) => D.int k) x4 (b + 7 + 1 + 7 * n + 1) b4 (fun _ => rfl) (by simp; omega)
    (fun d hd zs b' hb' hz => by
      rw [List.length_map, List.length_range] at hb'
      obtain ⟨t, ys, e, ok, hy⟩ := e_check hz (n := n) (by omega) (by omega) n3
      exact ⟨tstD t, ys, by simp [turnM, e2__law_loop, e], ⟨t, rfl, ok⟩, hy⟩)
  rw [List.length_map, List.length_range] at l5 b5
  obtain ⟨ts, rfl, htt⟩ := map_of tstD p5
  rw [List.length_map] at l5
  refine ⟨⟨ns, rows, ts⟩, x5, ?_, ⟨fun e => ?_, by show ns.length ≤ 3; omega, dn, okn, by show rows.length = ns.length; omega, fun i r hr => ?_, fun e => ?_, by show ts.length ≤ 4; omega, fun t ht => ?_⟩, b5.mono (by omega)⟩
  · have rn1 := rangeN n (by omega)
    have rn2 := rangeZ (i := 1 + (j : Int)) (n := 1 + j) (by omega) (by omega)
    have h3 : tupleD [.lst (rows.map rowD)] = .ok (rowsD rows) := rfl
    have h4 : tupleD [.lst (ts.map tstD)] = .ok (tstsD ts) := rfl
    have q1 : q1__law_loop [.own true x2, .val (.int 3), .val (.int c), .val (strsT ns), .un, .un, .val (.int n), .val (intsL w), .un, .un] = .ok (rows.map rowD) [.own true x3, .val (.int 3), .val (.int c), .val (strsT ns), .un, .un, .val (.int n), .val (intsL w), .un, .un] := by
      unfold q1__law_loop
      rw [List.nil_append] at e3
      simp [rn1, e3]
    have q2 : q2__law_loop [.own true x3, .val (.int 3), .val (.int c), .val (strsT ns), .val (rowsD rows), .un, .val (.int n), .val (intsL w), .un, .un] = .ok (ts.map tstD) [.own true x5, .val (.int 3), .val (.int c), .val (strsT ns), .val (rowsD rows), .un, .val (.int n), .val (intsL w), .un, .un] := by
      unfold q2__law_loop
      simp [e4, rn2, e5]
    unfold m__law_loop b__law_loop runI
    simp [e1, e2, hl2, h3, h4, lstD_of, tupD_of, sizeLine_eq, q1, q2, mDict]
    rfl
  · have e' : ns = [] := e
    rw [e'] at n1; simp at n1
  · show StepOk ns.length i r
    rw [← hn]; exact hst i r hr
  · have e' : ts = [] := e
    rw [e'] at l5; simp at l5; omega
  · show TstOk ns.length t
    rw [← hn]; exact htt t ht
/-- a start: the denominator 1 to 3, and n numbers, not more than M -/
theorem e_law_start {xs : List D} {b n a : Nat} {M : Int} (h : Bowl b xs) (hn : n ≤ 3) (hb : b < 800000) (hM : 1 ≤ M) (hs : Sz a M) (h2 : 2 ≤ a) (ha : a ≤ 500) : ∃ (X : List Int) (ys : List D), m__law_start (.own true xs) [.int n, .int M] = .ok (rowD X) (.own true ys) ∧ StartOk n X ∧ (∀ x ∈ X, Sz a x) ∧ Bowl (b + 10) ys := by
  obtain ⟨d, x1, hd, e1, b1⟩ := e_pickM D.int [1, 1, 1, 2, 3] h (by simp) (by simp) (by omega)
  have hd : 1 ≤ d ∧ d ≤ 3 := by
    simp only [List.mem_cons, List.not_mem_nil, or_false] at hd
    omega
  have e1 : m__law_pick (.own true xs) [.lst [.int 1, .int 1, .int 1, .int 2, .int 3]] = .ok (.int d) (.own true x1) := e1
  have s2 : Sz (a + 2) (2 * M + 1) := by
    have := (hs.add hs).add (Sz.one)
    rw [show M + M + 1 = 2 * M + 1 by omega] at this
    exact this.mono (by omega)
  have m2 : mulOk 2 M := (sz_small (by decide) (by decide)).mulOk hs (by omega)
  obtain ⟨l, x3, e3, l3, p3, b3⟩ := draw_list (vs := [3]) (t := .sl 3) (el := e1__law_start) (rest := [.val (.int n), .val (.int M), .un]) (P := fun y => ∃ k, y = .int k ∧ Sz a k) (cost := 1) ((List.range n).map fun (k : Nat) => D.int k) x1 (b + 1) b1 (fun _ => rfl) (by simp; omega)
    (fun d hd zs b' hb' hz => by
      rw [List.length_map, List.length_range] at hb'
      obtain ⟨k, ys, e, k0, k1, hy⟩ := e_bitZ hz (m := 2 * M + 1) (by omega) (s2.mono (by omega)) (by omega)
      exact ⟨.int (k - M), ys, by simp [turnM, e1__law_start, op_mulI m2, e], ⟨_, rfl, hs.of_abs (by omega)⟩, hy⟩)
  obtain ⟨ks, rfl, hk⟩ := ints_of p3
  rw [List.length_map, List.length_map, List.length_range] at l3
  rw [List.length_map, List.length_range] at b3
  have sd : Sz a d := Sz.mono (a := 2) (by unfold Sz; omega) h2
  have sx : ∀ x ∈ d :: ks, Sz a x := fun x hx => by
    rcases List.mem_cons.mp hx with e | e
    · rw [e]; exact sd
    · exact hk x e
  refine ⟨d :: ks, x3, ?_, ⟨by rw [List.length_cons, l3], fun x hx => ?_, fun x hx => (sx x hx).mono (by omega)⟩, sx, b3.mono (by omega)⟩
  · have a1 : addD (.tup [.int d]) (.tup (ks.map .int)) = .ok (rowD (d :: ks)) := add_row (a := [d]) (b := ks) (by simp; omega)
    have rn := rangeN n (by omega)
    unfold m__law_start b__law_start q1__law_start runI
    simp [lstD_of, sizeLine_eq, e1, tupD_of, rn, e3, a1]
  · cases hx; omega
end Pm
/-! LB: written loops and starts, by looking. -/
namespace Pm
open PySem PySem.Spec PyProof.Rows L2 Mr
theorem small_dec {M : Int} {r : List Int} (h : r.all (fun x => decide (-M ≤ x ∧ x ≤ M)) = true) : small M r := fun x hx => by
  have := List.all_eq_true.mp h x hx
  exact of_decide_eq_true this
/-- a written loop, by looking -/
theorem loop_dec {l : Lp} (h0 : l.names ≠ []) (h3 : l.n ≤ 3) (hn : l.names.Nodup) (hm : ∀ x ∈ l.names, NameOk x) (hs : l.steps.length = l.n)
    (h : ((List.range l.n).all fun i => match l.steps[i]? with
      | some r => decide (r.length = l.n + 1) && r.all (fun x => decide (-20 ≤ x ∧ x ≤ 20)) && (match r[i + 1]? with | some x => decide (-9 ≤ x ∧ x ≤ 9) | none => true) && (List.range 5).all fun j => decide (i + 1 < j → (r.getD j 0) = 0)
      | none => true) = true) (t0 : l.tests ≠ []) (t4 : l.tests.length ≤ 4) (ht : (l.tests.all fun t => decide (t.f.length = l.n + 1) && t.f.all fun x => decide (-99 ≤ x ∧ x ≤ 99)) = true) : LpOk l := by
  refine ⟨h0, h3, hn, hm, hs, fun i r hr => ?_, t0, t4, fun t htt => ?_⟩
  · have hi : i < l.n := by have := (List.getElem?_eq_some_iff.mp hr).1; omega
    have q := List.all_eq_true.mp h i (List.mem_range.mpr hi)
    rw [hr] at q
    simp only [Bool.and_eq_true] at q
    obtain ⟨⟨⟨q1, q2⟩, q3⟩, q4⟩ := q
    have q1 := of_decide_eq_true q1
    refine ⟨q1, small_dec q2, fun x hx => ?_, fun j x hj hx => ?_⟩
    · rw [hx] at q3; exact of_decide_eq_true q3
    · have hj2 := (List.getElem?_eq_some_iff.mp hx).1
      have := of_decide_eq_true (List.all_eq_true.mp q4 j (List.mem_range.mpr (by omega))) hj
      rw [List.getD_eq_getElem?_getD, hx] at this
      exact this
  · have q := List.all_eq_true.mp ht t htt
    rw [Bool.and_eq_true] at q
    exact ⟨of_decide_eq_true q.1, small_dec q.2⟩
theorem start_dec {n : Nat} {x : Int} {r : List Int} (hl : r.length = n) (h1 : 1 ≤ x) (h : ((x :: r).all fun x => decide (-1000 ≤ x ∧ x ≤ 1000)) = true) : StartOk n (x :: r) ∧ ∀ y ∈ x :: r, Sz 10 y := by
  have sz : ∀ y ∈ x :: r, Sz 10 y := fun y hy => by
    have := of_decide_eq_true (List.all_eq_true.mp h y hy)
    unfold Sz; omega
  exact ⟨⟨by simp [hl], fun y hy => by cases hy; exact h1, fun y hy => (sz y hy).mono (by decide)⟩, sz⟩
/-- max(1, min(m, n)) -/
theorem rounds_of (n m : Nat) (hm : 1 ≤ m) : ∃ N : Nat, (if (if (n : Int) < (m : Int) then (n : Int) else (m : Int)) > 1 then (if (n : Int) < (m : Int) then (n : Int) else (m : Int)) else 1) = (N : Int) ∧ N ≤ m := by
  by_cases c : (n : Int) < m
  · rw [if_pos c]
    by_cases c' : (n : Int) > 1
    · rw [if_pos c']; exact ⟨n, rfl, by omega⟩
    · rw [if_neg c']; exact ⟨1, rfl, by omega⟩
  · rw [if_neg c]
    by_cases c' : (m : Int) > 1
    · rw [if_pos c']; exact ⟨m, rfl, by omega⟩
    · rw [if_neg c']; exact ⟨1, rfl, by omega⟩
end Pm
/-! SA: systems. -/
namespace Pm
open PySem PySem.Spec PyProof.Rows L2 Mr
def within (m : Int) (ns : List Int) : Bool := ns.all fun x => decide (-m ≤ x) && decide (x ≤ m)
theorem e_is_row_within {ns : List Int} {w m : Int} (h : Row ns) : m_is_row_within [rowD ns, .int w, .int m] = .ok (.bl (decide ((ns.length : Int) = w) && within m ns)) := by
  have hq : q1_is_row_within [.val (rowD ns), .val (.int w), .val (.int m), .un] = .ok (ns.map fun x => .bl (decide (-m ≤ x) && decide (x ≤ m))) [.val (rowD ns), .val (.int w), .val (.int m), .un] := by
    unfold q1_is_row_within
    simp
    rw [lcM_map D.int ns (fun x => .bl (decide (-m ≤ x) && decide (x ≤ m))) rfl h.line fun x hx => by
      by_cases a : -m ≤ x <;> simp [turnM, e1_is_row_within, a]]
    simp
  unfold m_is_row_within b_is_row_within runF
  by_cases a : (ns.length : Int) = w
  · simp [e_is_row h, a, hq, within]
  · simp [e_is_row h, a]
/-! ### strands -/
inductive Sg where
  | more | least | null
  deriving DecidableEq
def Sg.s : Sg → Str
  | .more => Str.ofString "more"
  | .least => Str.ofString "least"
  | .null => Str.ofString "null"
structure Strand where
  g : Sg
  rows : List (List Int)
def sD (s : Strand) : D := .tup [.str s.g.s, .tup (s.rows.map rowD)]
structure StrandOk (n : Nat) (s : Strand) : Prop where
  ne : s.rows ≠ []
  le : s.rows.length ≤ 6
  row : ∀ r ∈ s.rows, r.length = n ∧ ∀ x ∈ r, -99999999999999999999 ≤ x ∧ x ≤ 99999999999999999999
theorem sz_max {x : Int} (h : -99999999999999999999 ≤ x ∧ x ≤ 99999999999999999999) : Sz 67 x := Sz.of (by have e : ((2 ^ 67 : Nat) : Int) = 147573952589676412928 := by decide
                                                                                                           omega) (by have e : ((2 ^ 67 : Nat) : Int) = 147573952589676412928 := by decide
                                                                                                                      omega)
theorem StrandOk.rowOk {n : Nat} {s : Strand} (h : StrandOk n s) (h1 : 1 ≤ n) (h4 : n ≤ 4) {r : List Int} (hr : r ∈ s.rows) : Row r := by
  obtain ⟨l, b⟩ := h.row r hr
  exact ⟨fun e => by subst e; simp at l; omega, by omega, fun x hx => (sz_max (b x hx)).mono (by decide)⟩
theorem e_is_strand_of {n : Nat} {s : Strand} {w : Int} (h : StrandOk n s) (h1 : 1 ≤ n) (h4 : n ≤ 4) : m_is_strand_of [sD s, .int w] = .ok (.bl (decide ((n : Int) = w))) := by
  have hq : q1_is_strand_of [.val (.tup [.str s.g.s, .tup (s.rows.map rowD)]), .val (.int w), .val (.str s.g.s), .val (.tup (s.rows.map rowD)), .un] = .ok (s.rows.map fun _ => .bl (decide ((n : Int) = w))) [.val (.tup [.str s.g.s, .tup (s.rows.map rowD)]), .val (.int w), .val (.str s.g.s), .val (.tup (s.rows.map rowD)), .un] := by
    unfold q1_is_strand_of
    simp
    rw [lcM_map rowD s.rows (fun r => .bl (decide ((n : Int) = w))) rfl (Nat.le_trans h.le (by decide)) fun r hr => by
      have e := e_is_row_within (w := w) (m := c_MAX_SIZE) (h.rowOk h1 h4 hr)
      have wi : within c_MAX_SIZE r = true := by
        unfold within c_MAX_SIZE
        simp only [List.all_eq_true, Bool.and_eq_true, decide_eq_true_eq]
        exact fun x hx => (h.row r hr).2 x hx
      rw [wi, (h.row r hr).1, Bool.and_true] at e
      simp [turnM, e1_is_strand_of, e]]
    simp
  have l0 : 0 < s.rows.length := List.length_pos_iff.mpr h.ne
  have l6 := h.le
  have hs : ninD (.str s.g.s) (.tup [.str c_MORE, .str c_LEAST, .str c_NULL]) = .ok (.bl false) := by cases s.g <;> rfl
  have a1 : (1 : Int) ≤ s.rows.length := by omega
  have a2 : (s.rows.length : Int) ≤ 6 := by omega
  have hx : s.rows ≠ [] := h.ne
  unfold m_is_strand_of b_is_strand_of runF
  simp [sD, hs, a1, a2, c_MAX_ROWS, tupD_of, sizeLine_eq, hq]
  exact all_const hx
structure PackOk (n : Nat) (ss : List Strand) : Prop where
  h1 : 1 ≤ n
  h4 : n ≤ 4
  ne : ss ≠ []
  le : ss.length ≤ 12
  ok : ∀ s ∈ ss, StrandOk n s
theorem e_are_strands {n : Nat} {ss : List Strand} (h : PackOk n ss) : m_are_strands [.tup (ss.map sD)] = .ok (.bl true) := by
  have hI : ∀ w : Int, q1_are_strands [SV.val (.tup (ss.map sD)), .val (.int w), .un] = .ok (ss.map fun _ => .bl (decide ((n : Int) = w))) [SV.val (.tup (ss.map sD)), .val (.int w), .un] := fun w => by
    unfold q1_are_strands
    simp
    rw [lcM_map sD ss (fun _ => .bl (decide ((n : Int) = w))) rfl (Nat.le_trans h.le (by decide)) fun s hs => by simp [turnM, e1_are_strands, e_is_strand_of (h.ok s hs) h.h1 h.h4]]
    simp
  have hO := lcM_map (vs := [1]) (t := .sl 1) (el := e2_are_strands) (ρ := [SV.val (.tup (ss.map sD)), .un, .un]) D.int [1, 2, 3, 4] (fun w => .bl (decide ((n : Int) = w))) rfl (by decide) fun w hw => by
    simp [turnM, e2_are_strands, hI, all_const h.ne]
  have l0 : 0 < ss.length := List.length_pos_iff.mpr h.ne
  have l6 := h.le
  have a1 : (1 : Int) ≤ ss.length := by omega
  have a2 : (ss.length : Int) ≤ 12 := by omega
  have hr : range2D [.int 1, .int 5] = .ok (([1, 2, 3, 4] : List Int).map D.int) := rfl
  have hn : (n : Int) = 1 ∨ (n : Int) = 2 ∨ (n : Int) = 3 ∨ (n : Int) = 4 := by have := h.h1; have := h.h4; omega
  unfold m_are_strands b_are_strands q2_are_strands runF
  simp only [List.map_cons, List.map_nil] at hO hr
  simp [a1, a2, c_MAX_STRANDS, c_MAX_WIDTH, hr, hO]
  rcases hn with e | e | e | e <;> rw [e] <;> rfl
def sysD (n : Nat) (ss : List Strand) : D := .obj "System" ["own_strands", "own_width"] [.tup (ss.map sD), .int n]
theorem e_init {n : Nat} {ss : List Strand} (h : PackOk n ss) : m_System___init__ (.ins true "System" [] []) [.tup (ss.map sD)] = .ok .non (.ins true "System" ["own_strands", "own_width"] [.tup (ss.map sD), .int n]) := by
  obtain ⟨s, ss', e⟩ : ∃ s ss', ss = s :: ss' := by
    cases hh : ss with
    | nil => exact absurd hh h.ne
    | cons s ss' => exact ⟨s, ss', rfl⟩
  obtain ⟨r, rs, e2⟩ : ∃ r rs, s.rows = r :: rs := by
    cases hh : s.rows with
    | nil => exact absurd hh (h.ok s (by rw [e]; exact List.mem_cons_self ..)).ne
    | cons r rs => exact ⟨r, rs, rfl⟩
  have hl := ((h.ok s (by rw [e]; exact List.mem_cons_self ..)).row r (by rw [e2]; exact List.mem_cons_self ..)).1
  have e3 := e_are_strands h
  have p1 : putN "own_strands" [] = (["own_strands"] : List Str) := rfl
  have p2 : putN "own_width" ["own_strands"] = (["own_strands", "own_width"] : List Str) := rfl
  have p3 : ∀ x y : D, putX "own_width" y ["own_strands"] [x] = [x, y] := fun _ _ => rfl
  have p4 : ∀ y : D, putX "own_strands" y [] [] = [y] := fun _ => rfl
  unfold m_System___init__ b_System___init__ runI
  simp [e3, p1, p2, p3, p4]
  rw [e]
  simp [sD, e2, rowD, p2, p3, hl]
/-! ### points that meet -/
def fsign (p : List Int) : List (List Int) → Int
  | [] => 0
  | r :: rs => if dot r p = 0 then fsign p rs else if 0 < dot r p then 1 else -1
def met (s : Strand) (p : List Int) : Bool := match s.g with
  | .null => decide (fsign p s.rows = 0)
  | .more => decide (fsign p s.rows = 1)
  | .least => decide (fsign p s.rows = 1) || decide (fsign p s.rows = 0)
theorem e_first_loop {rs : List (List Int)} {p : List Int} (h : ∀ r ∈ rs, Row r) (hp : ∀ x ∈ p, Sz 600 x) : ∀ {r0 v2 v3 : SV}, v2.isIo = false → v3.isIo = false →
    ∃ ρ', forM (.sl 2) y1_first_sign (rs.map rowD) [r0, .val (rowD p), v2, v3] =
      .ok (if fsign p rs = 0 then .nx else .rt (.int (fsign p rs))) ρ' := by
  induction rs with
  | nil => intro r0 v2 v3 _ _; exact ⟨_, by simp [fsign]; rfl⟩
  | cons r rs ih =>
    intro r0 v2 v3 h2 h3
    have e := e_value_by (xs := r) (ys := p) (by have := (h r (List.mem_cons_self ..)).le; omega) (h r (List.mem_cons_self ..)).sz hp (by decide)
    have e' : m_value_by [rowD r, rowD p] = .ok (.int (dot r p)) := e
    obtain ⟨ρ', q⟩ := ih (fun r hr => h r (List.mem_cons_of_mem _ hr)) (r0 := r0) (v2 := .val (rowD r)) (v3 := .val (.int (dot r p))) rfl rfl
    have hy : y1_first_sign [r0, .val (rowD p), .val (rowD r), v3] = .ok (if dot r p = 0 then .nx else .rt (.int (if 0 < dot r p then 1 else -1))) [r0, .val (rowD p), .val (rowD r), .val (.int (dot r p))] := by
      unfold y1_first_sign
      by_cases z : dot r p = 0
      · rw [z] at e'; simp [h3, e', z]
      · by_cases y : 0 < dot r p <;> simp [h3, e', z, y]
    by_cases z : dot r p = 0
    · refine ⟨ρ', ?_⟩
      simp [ap_forC, h2, hy, fsign, z]
      rw [z] at q
      exact q
    · refine ⟨[r0, .val (rowD p), .val (rowD r), .val (.int (dot r p))], ?_⟩
      by_cases y : 0 < dot r p <;> simp [ap_forC, h2, hy, fsign, z, y]
theorem e_first_sign {rs : List (List Int)} {p : List Int} (h : ∀ r ∈ rs, Row r) (hp : ∀ x ∈ p, Sz 600 x) : m_first_sign [.tup (rs.map rowD), rowD p] = .ok (.int (fsign p rs)) := by
  obtain ⟨ρ', e⟩ := e_first_loop h hp (r0 := .val (.tup (rs.map rowD))) (v2 := .un) (v3 := .un) rfl rfl
  unfold m_first_sign b_first_sign f1_first_sign runF
  by_cases z : fsign p rs = 0
  · simp [e, z]
  · simp [e, z]
theorem fsign_cases (p : List Int) : ∀ rs, fsign p rs = 0 ∨ fsign p rs = 1 ∨ fsign p rs = -1
  | [] => .inl rfl
  | r :: rs => by
    unfold fsign
    split
    · exact fsign_cases p rs
    · split
      · exact .inr (.inl rfl)
      · exact .inr (.inr rfl)
theorem e_is_met {n : Nat} {s : Strand} {p : List Int} (h : StrandOk n s) (h1 : 1 ≤ n) (h4 : n ≤ 4) (hp : ∀ x ∈ p, Sz 600 x) : m_is_met [sD s, rowD p] = .ok (.bl (met s p)) := by
  have e := e_first_sign (fun r hr => h.rowOk h1 h4 hr) hp
  unfold m_is_met b_is_met runF
  cases hg : s.g with
  | more =>
    have a1 : eqD (.str Sg.more.s) (.str c_NULL) = .ok (.bl false) := rfl
    have a2 : eqD (.str Sg.more.s) (.str c_LEAST) = .ok (.bl false) := rfl
    rcases fsign_cases p s.rows with z | z | z <;> simp [sD, hg, e, z, a1, a2, met]
  | least =>
    have a1 : eqD (.str Sg.least.s) (.str c_NULL) = .ok (.bl false) := rfl
    have a2 : eqD (.str Sg.least.s) (.str c_LEAST) = .ok (.bl true) := rfl
    rcases fsign_cases p s.rows with z | z | z <;> simp [sD, hg, e, z, a1, a2, met]
  | null =>
    have a1 : eqD (.str Sg.null.s) (.str c_NULL) = .ok (.bl true) := rfl
    rcases fsign_cases p s.rows with z | z | z <;> simp [sD, hg, e, z, a1, met]
def metAll (ss : List Strand) (p : List Int) : Bool := ss.all fun s => met s p
structure PtOk (n : Nat) (p : List Int) : Prop where
  len : p.length = n
  sz : ∀ x ∈ p, Sz 600 x
theorem PtOk.row {n : Nat} {p : List Int} (h : PtOk n p) (h1 : 1 ≤ n) (h4 : n ≤ 4) : Row p := ⟨fun e => by have := h.len; subst e; simp at this; omega, by rw [h.len]; exact h4, h.sz⟩
theorem e_meets {n : Nat} {ss : List Strand} {p : List Int} (h : PackOk n ss) (hp : PtOk n p) : m_meets [sysD n ss, rowD p] = .ok (.bl (metAll ss p)) := by
  have f1 : fldD ["System"] "own_width" (sysD n ss) = .ok (.int n) := rfl
  have f2 : fldD ["System"] "own_strands" (sysD n ss) = .ok (.tup (ss.map sD)) := rfl
  have hq : q1_meets [SV.val (sysD n ss), .val (rowD p), .un] = .ok (ss.map fun s => .bl (met s p)) [SV.val (sysD n ss), .val (rowD p), .un] := by
    unfold q1_meets
    simp [f2]
    rw [lcM_map sD ss (fun s => .bl (met s p)) rfl (Nat.le_trans h.le (by decide)) fun s hs => by simp [turnM, e1_meets, e_is_met (h.ok s hs) h.h1 h.h4 hp.sz]]
    simp
  have e := e_is_row (hp.row h.h1 h.h4)
  have e' : m_is_row [rowD p] = .ok (.bl true) := e
  have l : lenD [rowD p] = .ok (.int n) := by rw [← hp.len]; simp [rowD]
  unfold m_meets b_meets runF
  simp [e', l, f1, hq, metAll]
theorem e_contains {n : Nat} {ss : List Strand} {p : List Int} (h : PackOk n ss) (hp : PtOk n p) : m_System___contains__ [sysD n ss, rowD p] = .ok (.bl (metAll ss p)) := by
  unfold m_System___contains__ b_System___contains__ runF
  simp [e_meets h hp]
theorem e_in {n : Nat} {ss : List Strand} {p : List Int} (h : PackOk n ss) (hp : PtOk n p) : inO "System" m_System___contains__ (rowD p) (sysD n ss) = .ok (.bl (metAll ss p)) := by
  show (if ("System" : Str) = "System" then boolR (m_System___contains__ [sysD n ss, rowD p]) else .stuck) = _
  rw [if_pos rfl, e_contains h hp]
  rfl
theorem e_nin {n : Nat} {ss : List Strand} {p : List Int} (h : PackOk n ss) (hp : PtOk n p) : ninO "System" m_System___contains__ (rowD p) (sysD n ss) = .ok (.bl (!metAll ss p)) := by
  show (if ("System" : Str) = "System" then nboolR (m_System___contains__ [sysD n ss, rowD p]) else .stuck) = _
  rw [if_pos rfl, e_contains h hp]
  rfl
end Pm
/-! SB: drawn systems. -/
namespace Pm
open PySem PySem.Spec PyProof.Rows L2 Mr
/-- what a strand's draw gives -/
structure Drawn (n M k : Nat) (s : Strand) : Prop where
  ne : s.rows ≠ []
  le : s.rows.length ≤ k
  row : ∀ r ∈ s.rows, r.length = n ∧ small M r
theorem e_strand {xs : List D} {b n M k : Nat} (h : Bowl b xs) (h1 : 1 ≤ n) (h4 : n ≤ 4) (hM : 1 ≤ M) (hM2 : M < 1000) (hk : 1 ≤ k) (hk6 : k ≤ 6) (hb : b < 800000) :
    ∃ (s : Strand) (ys : List D), m__law_strand (.own true xs) [.int n, .int M, .int k] = .ok (sD s) (.own true ys) ∧ Drawn n M k s ∧ Bowl (b + 56) ys := by
  obtain ⟨d, x1, hd, e1, b1⟩ := (e_pickL (ds := [.str (Str.ofString "more"), .str (Str.ofString "more"), .str (Str.ofString "least"), .str (Str.ofString "least"), .str (Str.ofString "null")]) h (by simp) (by decide) (by omega))
  obtain ⟨g, rfl⟩ : ∃ g : Sg, d = .str g.s := by
    simp only [List.mem_cons, List.not_mem_nil, or_false] at hd
    rcases hd with e | e | e | e | e
    · exact ⟨.more, e⟩
    · exact ⟨.more, e⟩
    · exact ⟨.least, e⟩
    · exact ⟨.least, e⟩
    · exact ⟨.null, e⟩
  obtain ⟨j, x2, e2, j1, b2⟩ := e_bit b1 (m := k) (by omega) (by omega) (by omega)
  have hj : j < k := by omega
  obtain ⟨ρ', f, zs, rows, v6, rfl, hv, hz, hlen, hrow⟩ := forM_inv (t := .sl 6) (body := y1__law_strand)
    (I := fun i ρ => ∃ (zs : List D) (rows : List (List Int)) (v6 : SV), ρ = [.own true zs, .val (.int n), .val (.int M), .val (.int k), .val (.str g.s), .own false (rows.map rowD), v6] ∧ v6.isIo = false ∧ Bowl (b + 2 + 9 * i) zs ∧ rows.length = i ∧ ∀ r ∈ rows, r.length = n ∧ small M r)
    ((List.range (1 + j)).map fun (k : Nat) => D.int k) 0 [.own true x2, .val (.int n), .val (.int M), .val (.int k), .val (.str g.s), .own false [], .un] ⟨x2, [], .un, rfl, rfl, by simpa using b2, rfl, by simp⟩ (fun d hd i ρ i0 i1 hI => by
      obtain ⟨zs, rows, v6, rfl, hv, hz, hl, hr⟩ := hI
      rw [List.length_map, List.length_range] at i1
      have hsz : rows.length < sizeLine := by rw [sizeLine_eq]; omega
      obtain ⟨q, y1, f1, q1, c1⟩ := e_bit hz (m := 8) (by decide) (by decide) (by omega)
      by_cases hq : 0 < q
      · obtain ⟨r, y2, f2, lr, sr, c2⟩ := e_line c1 (n := n) hM hM2 (by omega)
        refine ⟨[.own true y2, .val (.int n), .val (.int M), .val (.int k), .val (.str g.s), .own false ((rows ++ [r]).map rowD), .val d], ?_, y2, rows ++ [r], .val d, rfl, rfl, c2.mono (by omega), by simp [hl], ?_⟩
        · simp [turnF, y1__law_strand, hv, f1, hq, f2, hsz]
        · intro z hz
          rcases List.mem_append.mp hz with hz | hz
          · exact hr z hz
          · rw [List.mem_singleton.mp hz]; exact ⟨lr, sr⟩
      · refine ⟨[.own true y1, .val (.int n), .val (.int M), .val (.int k), .val (.str g.s), .own false ((rows ++ [List.replicate n 0]).map rowD), .val d], ?_, y1, rows ++ [List.replicate n 0], .val d, rfl, rfl, c1.mono (by omega), by simp [hl], ?_⟩
        · simp [turnF, y1__law_strand, hv, f1, hq, tupD_of, sizeLine_eq, mul_zero (by omega : n ≤ 1000)]
          rw [sizeLine_eq] at hsz
          simp [hsz]
        · intro z hz
          rcases List.mem_append.mp hz with hz | hz
          · exact hr z hz
          · rw [List.mem_singleton.mp hz]
            refine ⟨by simp, fun x hx => ?_⟩
            rw [List.eq_of_mem_replicate hx]
            omega)
  rw [List.length_map, List.length_range, Nat.zero_add] at hz hlen
  refine ⟨⟨g, rows⟩, zs, ?_, ⟨fun e => ?_, ?_, hrow⟩, hz.mono (by omega)⟩
  · have rn := range1_of (i := (1 + (j : Int))) (by omega) (by omega)
    rw [show (1 + (j : Int)).toNat = 1 + j by omega] at rn
    unfold m__law_strand b__law_strand f1__law_strand runI
    simp [e1, e2, lstD_of, sizeLine_eq, rn, f, tupD_of, sD]
  · have e' : rows = [] := e
    rw [e'] at hlen; simp at hlen; omega
  · show rows.length ≤ k
    omega
theorem pack_core0 {xs x1 x2 x3 x4 L fs ys : List D} {n m j c : Int} (e1 : m__law_bit (.own true xs) [.int m] = .ok (.int j) (.own true x1)) (rn : range1D [.int (1 + j)] = .ok L)
    (eL : lcM [5] (.sl 5) tYesM e1__law_pack L [] [.own true x1, .val (.int n), .val (.int m), .un, .un, .un, .un, .un, .un, .un] = .ok fs [.own true x2, .val (.int n), .val (.int m), .un, .un, .un, .un, .un, .un, .un])
    (e2 : m__law_bit (.own true x2) [.int 2] = .ok (.int c) (.own true x3)) (hc : ¬ c = 0) (e3 : m__law_dealt (.own true x3) [.lst fs] = .ok (.lst ys) (.own true x4)) :
    m__law_pack (.own true xs) [.int n, .int m] = .ok (.tup ys) (.own true x4) := by
  unfold m__law_pack b__law_pack q1__law_pack runI
  simp [e1, rn, eL, e2, hc, e3]
def negr (r : List Int) : List Int := r.map fun x => 0 - x
theorem pack_core1 {xs x1 x2 x3 x4 x5 x6 x7 L fs ys : List D} {n m j lf k : Int} {g : Sg} {s : Strand} {z : D} {fl : List D} (hfl : s.rows.map (fun r => rowD (negr r)) = fl) (e1 : m__law_bit (.own true xs) [.int m] = .ok (.int j) (.own true x1)) (rn : range1D [.int (1 + j)] = .ok L)
    (eL : lcM [5] (.sl 5) tYesM e1__law_pack L [] [.own true x1, .val (.int n), .val (.int m), .un, .un, .un, .un, .un, .un, .un] = .ok fs [.own true x2, .val (.int n), .val (.int m), .un, .un, .un, .un, .un, .un, .un])
    (e2 : m__law_bit (.own true x2) [.int 2] = .ok (.int 0) (.own true x3))
    (eP : mPeek 3 (mIo m__law_pick 1 0 (mCons (mVar 3) mNil)) [.own true x3, .val (.int n), .val (.int m), .own false fs, .un, .un, .un, .un, .un, .un] = .ok (sD s) [.own true x4, .val (.int n), .val (.int m), .own false fs, .un, .un, .un, .un, .un, .un])
    (hlen : s.rows.length ≤ 100) (hrow : ∀ r ∈ s.rows, r.length ≤ 100) (hfs : fs.length < 1000)
    (e4 : m__law_pick (.own true x4) [.lst [.str (Str.ofString "more"), .str (Str.ofString "least"), .str s.g.s]] = .ok (.str g.s) (.own true x5))
    (hl : lenD [.tup fl] = .ok (.int lf)) (e5 : m__law_bit (.own true x5) [.int lf] = .ok (.int k) (.own true x6))
    (hz : sliceD (.tup fl) none (some (1 + k)) = .ok z)
    (e6 : m__law_dealt (.own true x6) [.lst (fs ++ [.tup [.str g.s, z]])] = .ok (.lst ys) (.own true x7)) :
    m__law_pack (.own true xs) [.int n, .int m] = .ok (.tup ys) (.own true x7) := by
  have hI : ∀ (r : List Int), r.length ≤ 100 → q2__law_pack [.own true x4, .val (.int n), .val (.int m), .own false fs, .un, .un, .val (.str s.g.s), .val (.tup (s.rows.map rowD)), .val (rowD r), .un] = .ok ((negr r).map .int) [.own true x4, .val (.int n), .val (.int m), .own false fs, .un, .un, .val (.str s.g.s), .val (.tup (s.rows.map rowD)), .val (rowD r), .un] := fun r hr => by
    unfold q2__law_pack
    simp
    rw [lcM_map D.int r (fun x => .int (0 - x)) rfl (Nat.le_trans hr (by decide)) fun x hx => by simp [turnM, e2__law_pack]]
    simp [negr]
  have hO : q3__law_pack [.own true x4, .val (.int n), .val (.int m), .own false fs, .un, .un, .val (.str s.g.s), .val (.tup (s.rows.map rowD)), .un, .un] = .ok (s.rows.map fun r => rowD (negr r)) [.own true x4, .val (.int n), .val (.int m), .own false fs, .un, .un, .val (.str s.g.s), .val (.tup (s.rows.map rowD)), .un, .un] := by
    unfold q3__law_pack
    simp
    rw [lcM_map rowD s.rows (fun r => rowD (negr r)) rfl (Nat.le_trans hlen (by decide)) fun r hr => by
      have tt : tupleD [.lst ((negr r).map .int)] = .ok (rowD (negr r)) := rfl
      simp [-op_tupleL, turnM, e3__law_pack, hI r (hrow r hr), tt]]
    simp
  have hsz : fs.length < 16777216 := by omega
  unfold m__law_pack b__law_pack q1__law_pack runI
  rw [hfl] at hO
  simp only [sD] at eP
  simp [-op_lenT, e1, rn, eL, e2, eP, hO, e4, hl, e5, hz, e6, lstD_of, tupD_of, sizeLine_eq, hsz]
theorem strands_of {p : Strand → Prop} : ∀ {ys : List D}, (∀ y ∈ ys, ∃ s, y = sD s ∧ p s) → ∃ ss : List Strand, ys = ss.map sD ∧ ∀ s ∈ ss, p s
  | [], _ => ⟨[], rfl, by simp⟩
  | y :: ys, h => by
    obtain ⟨k, e, q⟩ := h y (List.mem_cons_self ..)
    obtain ⟨ks, e2, q2⟩ := strands_of fun z hz => h z (List.mem_cons_of_mem _ hz)
    exact ⟨k :: ks, by rw [e, e2]; rfl, fun z hz => by
      rcases List.mem_cons.mp hz with e | e
      · rw [e]; exact q
      · exact q2 z e⟩
theorem noL_rows : ∀ rs : List (List Int), noLs (rs.map rowD) = true
  | [] => rfl
  | r :: rs => by
    rw [List.map_cons, noLs, noL_rows rs, Bool.and_true]
    unfold rowD
    rw [noL]
    induction r with
    | nil => rfl
    | cons x r ih => rw [List.map_cons, noLs, noL, ih]; rfl
theorem noL_sD (s : Strand) : noL (sD s) = true := by
  unfold sD
  rw [noL, noLs, noL, noLs, noL, noL_rows]; rfl
theorem peek_core {x3 x4 fs : List D} {n m : SV} {s : Strand} (hn : okI n n) (hm : okI m m) (h : Bowl 1000000 x4) (e : m__law_pick (.own true x3) [.lst fs] = .ok (sD s) (.own true x4)) :
    mPeek 3 (mIo m__law_pick 1 0 (mCons (mVar 3) mNil)) [.own true x3, n, m, .own false fs, .un, .un, .un, .un, .un, .un] = .ok (sD s) [.own true x4, n, m, .own false fs, .un, .un, .un, .un, .un, .un] := by
  obtain ⟨a, b, c, rfl, _⟩ := h
  refine (ap_Peek (d := sD s) (xs := fs) (ρ' := [.own true [.int a, .int b, .int c], n, m, .val (.lst fs), .un, .un, .un, .un, .un, .un]) rfl ?_ (noL_sD s) rfl ?_).trans rfl
  · simp [e]
  · refine ⟨.inr rfl, .inr hn, .inr hm, .inl rfl, .inr trivial, .inr trivial, .inr trivial, .inr trivial, .inr trivial, .inr trivial, trivial⟩
theorem Drawn.neg {n k : Nat} {s : Strand} {g : Sg} (h : Drawn n 2 k s) {j : Nat} (hj : 1 ≤ j) : Drawn n 2 k ⟨g, (s.rows.map negr).take j⟩ := by
  have l0 := List.length_pos_iff.mpr h.ne
  refine ⟨fun e => ?_, ?_, fun r hr => ?_⟩
  · have : ((s.rows.map negr).take j).length = 0 := by rw [show (s.rows.map negr).take j = [] from e]; rfl
    rw [List.length_take, List.length_map] at this
    omega
  · show ((s.rows.map negr).take j).length ≤ k
    rw [List.length_take, List.length_map]
    have := h.le
    omega
  · obtain ⟨q, hq, rfl⟩ := List.mem_map.mp (List.mem_of_mem_take hr)
    obtain ⟨l, b⟩ := h.row q hq
    refine ⟨by unfold negr; rw [List.length_map]; exact l, fun x hx => ?_⟩
    obtain ⟨y, hy, rfl⟩ := List.mem_map.mp hx
    have := b y hy
    omega
theorem cut_take1 {xs : List D} {k : Nat} : Mr.cutD xs none (some ((1 : Int) + k)) = xs.take (1 + k) := by
  rw [show (1 : Int) + (k : Int) = ((1 + k : Nat) : Int) by omega, cut_take]
theorem draw_strands {xs : List D} {b n c : Nat} {m : SV} (h : Bowl b xs) (h1 : 1 ≤ n) (h4 : n ≤ 4) (hc : c ≤ 20) (hb : b < 700000) :
    ∃ (ss : List Strand) (ys : List D), lcM [5] (.sl 5) tYesM e1__law_pack ((List.range c).map fun (k : Nat) => D.int k) [] [.own true xs, .val (.int n), m, .un, .un, .un, .un, .un, .un, .un] = .ok (ss.map sD) [.own true ys, .val (.int n), m, .un, .un, .un, .un, .un, .un, .un] ∧
      ss.length = c ∧ (∀ s ∈ ss, Drawn n 2 3 s) ∧ Bowl (b + 56 * c) ys := by
  obtain ⟨ys, ρ', e, ⟨zs, rfl, hz⟩, l, p⟩ := lcM_run2 (vs := [5]) (t := .sl 5) (el := e1__law_pack) (I := fun j ρ => ∃ ys, ρ = [.own true ys, .val (.int n), m, .un, .un, .un, .un, .un, .un, .un] ∧ Bowl (b + 56 * j) ys) (P := fun y => ∃ s, y = sD s ∧ Drawn n 2 3 s)
    ((List.range c).map fun (k : Nat) => D.int k) [] 0 [.own true xs, .val (.int n), m, .un, .un, .un, .un, .un, .un, .un] (by simp [sizeLine_eq]; omega) ⟨xs, rfl, by simpa using h⟩ (fun d hd j ρ h0 h1' hI => by
      obtain ⟨zs, rfl, hz⟩ := hI
      rw [List.length_map, List.length_range] at h1'
      refine ⟨rfl, ?_⟩
      obtain ⟨s, ys, e, ds, hy⟩ := e_strand (M := 2) (k := 3) hz h1 h4 (by decide) (by decide) (by decide) (by decide) (by omega)
      have e' : m__law_strand (.own true zs) [.int n, .int 2, .int 3] = .ok (sD s) (.own true ys) := e
      refine ⟨sD s, [.own true ys, .val (.int n), m, .un, .un, .un, .un, .un, .un, .un], ?_, ⟨ys, rfl, by rw [show b + 56 * (j + 1) = b + 56 * j + 56 by omega]; exact hy⟩, s, rfl, ds⟩
      simp [turnM, e1__law_pack, e'])
  obtain ⟨ks, rfl, hk⟩ := strands_of p
  rw [List.length_map, List.length_map, List.length_range] at l
  rw [List.length_map, List.length_range, Nat.zero_add] at hz
  exact ⟨ks, zs, by simpa using e, l, hk, hz⟩
theorem e_pack {xs : List D} {b n m : Nat} (h : Bowl b xs) (h1 : 1 ≤ n) (h4 : n ≤ 4) (hm : 1 ≤ m) (hm9 : m ≤ 9) (hb : b < 600000) :
    ∃ (ss : List Strand) (ys : List D), m__law_pack (.own true xs) [.int n, .int m] = .ok (.tup (ss.map sD)) (.own true ys) ∧ ss ≠ [] ∧ ss.length ≤ m + 1 ∧ (∀ s ∈ ss, Drawn n 2 3 s) ∧ Bowl (b + 800) ys := by
  obtain ⟨j, x1, e1, j1, b1⟩ := e_bit h (m := m) (by omega) (by omega) (by omega)
  have rn := range1_of (i := (1 + (j : Int))) (by omega) (by omega)
  rw [show (1 + (j : Int)).toNat = 1 + j by omega] at rn
  obtain ⟨ss, x2, eL, lss, hss, b2⟩ := draw_strands (m := .val (.int m)) (c := 1 + j) b1 h1 h4 (by omega) (by omega)
  have nes : ss ≠ [] := fun e => by rw [e] at lss; simp at lss; omega
  obtain ⟨c, x3, e2, c1, b3⟩ := e_bit b2 (m := 2) (by decide) (by decide) (by omega)
  by_cases hc : c = 0
  · subst hc
    obtain ⟨d, x4, hd, ep, b4⟩ := (e_pickL (ds := ss.map sD) b3 (by simpa using nes) (by rw [List.length_map]; omega) (by omega))
    obtain ⟨s, hs, rfl⟩ := List.mem_map.mp hd
    have ds := hss s hs
    have eP := peek_core (n := .val (.int n)) (m := .val (.int m)) rfl rfl (b4.mono (by omega)) ep
    obtain ⟨d2, x5, hd2, e4, b5⟩ := (e_pickL (ds := [.str (Str.ofString "more"), .str (Str.ofString "least"), .str s.g.s]) b4 (by simp) (by simp) (by omega))
    obtain ⟨g, rfl⟩ : ∃ g : Sg, d2 = .str g.s := by
      simp only [List.mem_cons, List.not_mem_nil, or_false] at hd2
      rcases hd2 with e | e | e
      · exact ⟨.more, e⟩
      · exact ⟨.least, e⟩
      · exact ⟨s.g, e⟩
    obtain ⟨fl, hfl⟩ : ∃ fl, s.rows.map (fun r => rowD (negr r)) = fl := ⟨_, rfl⟩
    have lfl : fl.length = s.rows.length := by rw [← hfl, List.length_map]
    have l0 := List.length_pos_iff.mpr ds.ne
    have l3 := ds.le
    obtain ⟨k, x6, e5, k1, b6⟩ := e_bit b5 (m := fl.length) (by omega) (by omega) (by omega)
    have hz : sliceD (.tup fl) none (some (1 + (k : Int))) = .ok (.tup (fl.take (1 + k))) := by
      show FR.ok (D.tup (Mr.cutD fl none (some (1 + (k : Int))))) = _
      rw [cut_take1]
    have hnew : D.tup [.str g.s, .tup (fl.take (1 + k))] = sD ⟨g, (s.rows.map negr).take (1 + k)⟩ := by
      unfold sD
      rw [← hfl]
      show _ = D.tup [.str g.s, .tup (((s.rows.map negr).take (1 + k)).map rowD)]
      rw [List.map_take, List.map_map]
      rfl
    obtain ⟨ys, x7, e6, p, b7⟩ := (e_dealtL (ds := ss.map sD ++ [.tup [.str g.s, .tup (fl.take (1 + k))]]) b6 (by simp; omega) (by omega))
    rw [hnew, show ss.map sD ++ [sD ⟨g, (s.rows.map negr).take (1 + k)⟩] = (ss ++ [Strand.mk g ((s.rows.map negr).take (1 + k))]).map sD by rw [List.map_append]; rfl] at p
    obtain ⟨ss', rfl, pp⟩ := perm_map p
    have lp := pp.length_eq
    rw [List.length_append, List.length_singleton] at lp
    refine ⟨ss', x7, pack_core1 hfl e1 rn eL e2 eP (by omega) (fun r hr => by rw [(ds.row r hr).1]; omega) (by rw [List.length_map]; omega) e4 op_lenT e5 hz e6, fun e => ?_, by omega, fun z hz => ?_, b7.mono (by simp; omega)⟩
    · rw [e] at lp; simp at lp
    · rcases List.mem_append.mp (pp.mem_iff.mp hz) with q | q
      · exact hss z q
      · rw [List.mem_singleton.mp q]; exact ds.neg (by omega)
  · obtain ⟨ys, x4, e3, p, b4⟩ := (e_dealtL (ds := ss.map sD) b3 (by simp; omega) (by omega))
    obtain ⟨ss', rfl, pp⟩ := perm_map p
    have lp := pp.length_eq
    refine ⟨ss', x4, pack_core0 e1 rn eL e2 (by omega) e3, fun e => ?_, by omega, fun z hz => hss z (pp.mem_iff.mp hz), b4.mono (by simp; omega)⟩
    rw [e] at lp; simp at lp; omega
/-- all points with numbers from -m to m -/
def spotsL (m : Nat) : Nat → List (List Int)
  | 0 => [[]]
  | n + 1 => (spotsL m n).flatMap fun s => (List.range (2 * m + 1)).map fun (k : Nat) => s ++ [(k : Int) - m]
def spots (n : Nat) : List (List Int) := spotsL (if n < 3 then 2 else 1) n
theorem spots_1 : m__law_all_spots [.int 1] = .ok (.lst ((spots 1).map rowD)) := by kernel_rfl
theorem spots_2 : m__law_all_spots [.int 2] = .ok (.lst ((spots 2).map rowD)) := by kernel_rfl
theorem spots_3 : m__law_all_spots [.int 3] = .ok (.lst ((spots 3).map rowD)) := by kernel_rfl
theorem e_spots {n : Nat} (h1 : 1 ≤ n) (h3 : n ≤ 3) : m__law_all_spots [.int n] = .ok (.lst ((spots n).map rowD)) := by
  have : n = 1 ∨ n = 2 ∨ n = 3 := by omega
  rcases this with rfl | rfl | rfl
  · exact spots_1
  · exact spots_2
  · exact spots_3
theorem spots_ok {n : Nat} (h1 : 1 ≤ n) (h3 : n ≤ 3) : (spots n).length ≤ 27 ∧ ∀ p ∈ spots n, p.length = n ∧ ∀ x ∈ p, -2 ≤ x ∧ x ≤ 2 := by
  have : n = 1 ∨ n = 2 ∨ n = 3 := by omega
  rcases this with rfl | rfl | rfl <;> decide +kernel
end Pm
/-! SC: k27's plain law, the parts. -/
namespace Pm
open PySem PySem.Spec PyProof.Rows L2 Mr
/-- p + k q -/
def plus (p q : List Int) (k : Int) : List Int := p.zipWith (fun x y => x + k * y) q
theorem plus_eq (p q : List Int) (k : Int) : plus p q k = addR p (mulR k q) := by
  unfold plus addR mulR
  rw [List.zipWith_map_right]
theorem e_sum {p q : List Int} {k : Int} {a b : Nat} (hp : p.length ≤ 4) (hk : Sz a k) (h' : ∀ y ∈ q, Sz b y) (hab : a + b ≤ 1000) : m__law_sum [rowD p, rowD q, .int k] = .ok (rowD (plus p q k)) := by
  have hq : q1__law_sum [.val (rowD p), .val (rowD q), .val (.int k), .un, .un] = .ok ((plus p q k).map .int) [.val (rowD p), .val (rowD q), .val (.int k), .un, .un] := by
    unfold q1__law_sum
    simp
    rw [lcM_zip p q (fun x y => .int (x + k * y)) rfl (by rw [sizeLine_eq]; omega) fun x hx y hy => by
      simp [turnM, e1__law_sum, op_mulI (hk.mulOk (h' _ hy) (by omega))]]
    simp [plus, List.map_zipWith]
  unfold m__law_sum b__law_sum runF
  simp [hq]
  rfl
theorem dot_plus {r p q : List Int} {k : Int} (h : p.length = r.length) (h' : q.length = r.length) : dot r (plus p q k) = dot r p + k * dot r q := by
  rw [plus_eq, dot_addr p (mulR k q) r (by omega) (by simp; omega), dot_mulr]
/-- two points with signs not below 0 -/
theorem fsign_plus {p q : List Int} {k : Int} (hk : 1 ≤ k) : ∀ (rs : List (List Int)), (∀ r ∈ rs, p.length = r.length ∧ q.length = r.length) → fsign p rs ≠ -1 → fsign q rs ≠ -1 → fsign (plus p q k) rs = if fsign p rs = 0 ∧ fsign q rs = 0 then 0 else 1
  | [], _, _, _ => by simp [fsign]
  | r :: rs, h, hp, hq => by
    obtain ⟨l1, l2⟩ := h r (List.mem_cons_self ..)
    have ih := fsign_plus hk rs (fun r hr => h r (List.mem_cons_of_mem _ hr))
    have e := dot_plus (r := r) (k := k) l1 l2
    unfold fsign at hp hq ⊢
    rw [e]
    by_cases a : dot r p = 0
    · by_cases b : dot r q = 0
      · rw [if_pos a] at hp
        rw [if_pos b] at hq
        rw [if_pos (by rw [a, b]; simp), if_pos a, if_pos b]
        exact ih hp hq
      · rw [if_neg b] at hq
        have b1 : 0 < dot r q := by
          rcases Int.lt_or_le 0 (dot r q) with c | c
          · exact c
          · rw [if_neg (by omega)] at hq; exact absurd rfl hq
        have := Int.mul_pos (show 0 < k by omega) b1
        rw [if_neg (by omega), if_pos (by omega), if_neg b, if_pos b1, if_neg (by intro ⟨_, z⟩; omega)]
    · rw [if_neg a] at hp
      have a1 : 0 < dot r p := by
        rcases Int.lt_or_le 0 (dot r p) with c | c
        · exact c
        · rw [if_neg (by omega)] at hp; exact absurd rfl hp
      have b1 : 0 ≤ dot r q := by
        by_cases b : dot r q = 0
        · omega
        · rw [if_neg b] at hq
          rcases Int.lt_or_le 0 (dot r q) with c | c
          · omega
          · rw [if_neg (by omega)] at hq; exact absurd rfl hq
      have := Int.mul_nonneg (show 0 ≤ k by omega) b1
      rw [if_neg (by omega), if_pos (by omega), if_neg a, if_pos a1, if_neg (by intro ⟨z, _⟩; omega)]
theorem fsign_calm {p q : List Int} {k : Int} : ∀ (rs : List (List Int)), (∀ r ∈ rs, p.length = r.length ∧ q.length = r.length) → (∀ r ∈ rs, dot r q = 0) → fsign (plus p q k) rs = fsign p rs
  | [], _, _ => rfl
  | r :: rs, h, hq => by
    obtain ⟨l1, l2⟩ := h r (List.mem_cons_self ..)
    have ih := fsign_calm (k := k) rs (fun r hr => h r (List.mem_cons_of_mem _ hr)) (fun r hr => hq r (List.mem_cons_of_mem _ hr))
    unfold fsign
    rw [dot_plus l1 l2, hq r (List.mem_cons_self ..), Int.mul_zero, Int.add_zero, ih]
theorem met_plus {n : Nat} {s : Strand} {p q : List Int} {k : Int} (h : StrandOk n s) (hk : 1 ≤ k) (lp : p.length = n) (lq : q.length = n) (mp : met s p = true) (mq : met s q = true) : met s (plus p q k) = true := by
  have hr : ∀ r ∈ s.rows, p.length = r.length ∧ q.length = r.length := fun r hr => by have := (h.row r hr).1; omega
  have e := fsign_plus hk s.rows hr
  unfold met at mp mq ⊢
  cases hg : s.g with
  | more =>
    rw [hg] at mp mq
    simp at mp mq ⊢
    rw [e (by omega) (by omega), if_neg (by omega)]
  | least =>
    rw [hg] at mp mq
    simp at mp mq ⊢
    rw [e (by omega) (by omega)]
    split <;> simp
  | null =>
    rw [hg] at mp mq
    simp at mp mq ⊢
    rw [e (by omega) (by omega), if_pos ⟨mp, mq⟩]
theorem met_calm {n : Nat} {s : Strand} {p q : List Int} {k : Int} (h : StrandOk n s) (lp : p.length = n) (lq : q.length = n) (hc : ∀ r ∈ s.rows, dot r q = 0) : met s (plus p q k) = met s p := by
  have hr : ∀ r ∈ s.rows, p.length = r.length ∧ q.length = r.length := fun r hr => by have := (h.row r hr).1; omega
  unfold met
  rw [fsign_calm s.rows hr hc]
theorem opt_filter' {α β : Type} (p : α → Bool) (g : α → β) : ∀ l : List α, l.filterMap (fun x => if p x = true then some (g x) else none) = (l.filter p).map g
  | [] => rfl
  | x :: l => by
    rw [List.filterMap_cons, List.filter_cons, opt_filter' p g l]
    cases p x <;> simp
def nz (ss : List Strand) (p : List Int) : List (List Int) := ss.flatMap fun s => s.rows.filter fun r => dot r p != 0
theorem nz_nil {ss : List Strand} {p : List Int} : nz ss p = [] ↔ ∀ s ∈ ss, ∀ r ∈ s.rows, dot r p = 0 := by
  unfold nz
  simp
theorem calm_run {n : Nat} {v0 : SV} {p : List Int} (h1 : 1 ≤ n) (h4 : n ≤ 4) (hp : ∀ x ∈ p, Sz 600 x) : ∀ (ss : List Strand) (acc : List (List Int)), (∀ s ∈ ss, StrandOk n s) → acc.length + 6 * ss.length ≤ 1000 → ∀ {v3 : SV}, v3.isIo = false →
    ∃ w3, forM (.sl 3) y1__law_is_calm (ss.map sD) [v0, .val (rowD p), .val (.lst (acc.map rowD)), v3, .un] = .ok .nx [v0, .val (rowD p), .val (.lst ((acc ++ nz ss p).map rowD)), w3, .un]
  | [], acc, _, _, v3, _ => ⟨v3, by simp [nz]⟩
  | s :: ss, acc, hs, hl, v3, h3 => by
    rw [List.length_cons] at hl
    have ok := hs s (List.mem_cons_self ..)
    have l6 := ok.le
    have hf := List.length_filter_le (fun r => dot r p != 0) s.rows
    obtain ⟨w3, e⟩ := calm_run (v0 := v0) h1 h4 hp ss (acc ++ s.rows.filter fun r => dot r p != 0) (fun z hz => hs z (List.mem_cons_of_mem _ hz)) (by rw [List.length_append]; omega) (v3 := .val (sD s)) rfl
    refine ⟨w3, ?_⟩
    have i1 : ixD (sD s) (.int 1) = .ok (.tup (s.rows.map rowD)) := ixD_tup (k := 1) rfl
    have hq : q1__law_is_calm [v0, .val (rowD p), .val (.lst (acc.map rowD)), .val (sD s), .un] = .ok ((s.rows.filter fun r => dot r p != 0).map rowD) [v0, .val (rowD p), .val (.lst (acc.map rowD)), .val (sD s), .un] := by
      unfold q1__law_is_calm
      simp [i1]
      rw [lcM_opt rowD s.rows (fun r => if (dot r p != 0) = true then some (rowD r) else none) rfl (by rw [sizeLine_eq]; omega) fun r hr => by
        have ro := ok.rowOk h1 h4 hr
        have ea := e_amount (xs := r) (ys := p) (by have := ro.le; omega) ro.sz hp (by decide)
        by_cases c : dot r p = 0 <;> simp [turnO, e1__law_is_calm, ea, c]]
      rw [opt_filter']
      simp
    have ha : addD (.lst (acc.map rowD)) (.lst ((s.rows.filter fun r => dot r p != 0).map rowD)) = .ok (.lst ((acc ++ s.rows.filter fun r => dot r p != 0).map rowD)) := by
      rw [List.map_append]
      exact if_pos (by rw [sizeLine_eq, List.length_map, List.length_map]; omega)
    have hy : y1__law_is_calm [v0, .val (rowD p), .val (.lst (acc.map rowD)), .val (sD s), .un] = .ok .nx [v0, .val (rowD p), .val (.lst ((acc ++ s.rows.filter fun r => dot r p != 0).map rowD)), .val (sD s), .un] := by
      unfold y1__law_is_calm
      simp [hq, -List.map_append, ha]
    rw [List.map_cons, ap_forC]
    have e0 : putT (.sl 3) (sD s) [v0, .val (rowD p), .val (.lst (acc.map rowD)), v3, .un] = .ok () [v0, .val (rowD p), .val (.lst (acc.map rowD)), .val (sD s), .un] := by simp [h3]
    rw [e0, R.bind_ok, hy, R.bind_ok]
    show forM _ _ _ _ = _
    rw [e, List.append_assoc]
    rfl
end Pm
/-! SD: k27's plain law, filters of points. -/
namespace Pm
open PySem PySem.Spec PyProof.Rows L2 Mr
theorem eq_rows_nil {L : List (List Int)} : eqD (.lst (L.map rowD)) (.lst []) = .ok (.bl L.isEmpty) := by
  cases L with
  | nil => rfl
  | cons r L =>
    have : ∀ (n : Nat) (R : List (List Int)), okDs (n + 1) (R.map rowD) = true := fun n R => by
      induction R with
      | nil => simp
      | cons r R ih => rw [List.map_cons]; simp [ih]
    unfold eqD
    rw [if_pos ⟨by simp [okD, this], by simp⟩]
    rfl
theorem e_is_calm {n : Nat} {ss : List Strand} {p : List Int} (h : PackOk n ss) (hp : ∀ x ∈ p, Sz 600 x) : m__law_is_calm [.tup (ss.map sD), rowD p] = .ok (.bl (nz ss p).isEmpty) := by
  have l12 := h.le
  obtain ⟨w3, e⟩ := calm_run (v0 := .val (.tup (ss.map sD))) h.h1 h.h4 hp ss [] h.ok (by simp; omega) (v3 := .un) rfl
  have e : forM (.sl 3) y1__law_is_calm (ss.map sD) [.val (.tup (ss.map sD)), .val (rowD p), .val (.lst []), .un, .un] = .ok .nx [.val (.tup (ss.map sD)), .val (rowD p), .val (.lst ((nz ss p).map rowD)), w3, .un] := e
  unfold m__law_is_calm b__law_is_calm f1__law_is_calm runF
  simp [lstD_of, sizeLine_eq, e, eq_rows_nil]
/-- the points of a list that are of a system -/
theorem filt_in {vs : List Nat} {j : Nat} {c : M Bool} {el : M D} {ρ : Ro} (P : List Int → Bool) (ps : List (List Int)) (hp : plainR ρ vs = true) (hl : ps.length ≤ 100000) (h : ∀ p ∈ ps, turnO vs (.sl j) c el ρ (rowD p) = .ok (if P p = true then some (rowD p) else none) ρ) :
    lcM vs (.sl j) c el (ps.map rowD) [] ρ = .ok ((ps.filter P).map rowD) ρ := by
  rw [lcM_opt rowD ps (fun p => if P p = true then some (rowD p) else none) hp (by rw [sizeLine_eq]; omega) h, opt_filter']
theorem metAll_append {ss ts : List Strand} {p : List Int} : metAll (ss ++ ts) p = (metAll ss p && metAll ts p) := by
  unfold metAll; exact List.all_append
theorem metAll_perm {ss ts : List Strand} {p : List Int} (h : List.Perm ss ts) : metAll ss p = metAll ts p := by
  unfold metAll
  cases hb : ts.all fun s => met s p with
  | true => exact List.all_eq_true.mpr fun s hs => List.all_eq_true.mp hb s (h.mem_iff.mp hs)
  | false =>
    cases ha : ss.all fun s => met s p with
    | false => rfl
    | true =>
      rw [List.all_eq_true.mpr fun s hs => List.all_eq_true.mp ha s (h.mem_iff.mpr hs)] at hb
      cases hb
theorem metAll_plus {n : Nat} {ss : List Strand} {p q : List Int} {k : Int} (h : PackOk n ss) (hk : 1 ≤ k) (lp : p.length = n) (lq : q.length = n) (mp : metAll ss p = true) (mq : metAll ss q = true) : metAll ss (plus p q k) = true := by
  unfold metAll at *
  rw [List.all_eq_true] at *
  exact fun s hs => met_plus (h.ok s hs) hk lp lq (mp s hs) (mq s hs)
theorem metAll_calm {n : Nat} {ss : List Strand} {p q : List Int} {k : Int} (h : PackOk n ss) (lp : p.length = n) (lq : q.length = n) (hc : nz ss q = []) : metAll ss (plus p q k) = metAll ss p := by
  unfold metAll
  have hc := nz_nil.mp hc
  have all : ∀ l : List Strand, (∀ s ∈ l, met s (plus p q k) = met s p) → (l.all fun s => met s (plus p q k)) = l.all fun s => met s p := fun l => by
    induction l with
    | nil => intro _; rfl
    | cons s l ih =>
      intro h
      rw [List.all_cons, List.all_cons, h s (List.mem_cons_self ..), ih fun z hz => h z (List.mem_cons_of_mem _ hz)]
  exact all ss fun s hs => met_calm (h.ok s hs) lp lq (hc s hs)
theorem Drawn.ok {n M k : Nat} {s : Strand} (h : Drawn n M k s) (hM : M < 1000) (hk : k ≤ 6) : StrandOk n s :=
  ⟨h.ne, by have := h.le; omega, fun r hr => ⟨(h.row r hr).1, fun x hx => by have := (h.row r hr).2 x hx; omega⟩⟩
/-- a spot of the law -/
structure Spot (n : Nat) (p : List Int) : Prop where
  len : p.length = n
  sm : ∀ x ∈ p, -2 ≤ x ∧ x ≤ 2
theorem Spot.sz {n : Nat} {p : List Int} (h : Spot n p) : ∀ x ∈ p, Sz 2 x := fun x hx => by have := h.sm x hx; unfold Sz; omega
theorem Spot.pt {n : Nat} {p : List Int} (h : Spot n p) : PtOk n p := ⟨h.len, fun x hx => (h.sz x hx).mono (by decide)⟩
theorem plus_pt {n : Nat} {p q : List Int} {k : Int} (h : Spot n p) (h' : Spot n q) (hk : Sz 8 k) : PtOk n (plus p q k) := by
  refine ⟨?_, fun x hx => ?_⟩
  · rw [plus_eq, addR_len, mulR_len, h.len, h'.len]; omega
  · rw [plus_eq] at hx
    exact (addR_sz h.sz (mulR_sz hk h'.sz) x hx).mono (by decide)
end Pm
/-! SE: k27's plain law, one point. -/
namespace Pm
open PySem PySem.Spec PyProof.Rows L2 Mr
theorem filterMap_non {α β : Type} : ∀ l : List α, l.filterMap (fun _ => (none : Option β)) = []
  | [] => rfl
  | _ :: l => by rw [List.filterMap_cons]; exact filterMap_non l
/-- the slots of k27's right, from the spots on -/
def ro27 (xs : List D) (n : Nat) (v2 v3 v4 : SV) (ss ts : List Strand) (spD gdD cmD : D) (v11 v12 v13 : SV) : Ro :=
  [.own true xs, .val (.int n), v2, v3, v4, .val (.tup (ss.map sD)), .val (.tup (ts.map sD)), .val (sysD n ss), .val spD, .val gdD, .val cmD, v11, v12, v13, .un]
theorem e_q3 {n : Nat} {ss ts : List Strand} (h : PackOk n ss) (h3 : n ≤ 3) {G : List (List Int)} (hG : ∀ p ∈ G, Spot n p ∧ metAll ss p = true) (lG : G.length ≤ 27) {p : List Int} (hp : Spot n p) (mp : metAll ss p = true) {xs : List D} {b : Nat} (hB : Bowl b xs) (hb : b < 900000) {v3 v4 v12 v13 : SV} {spD cmD : D} {d11 : SV} (h11 : plainR (ro27 xs n (.val (rowD p)) v3 v4 ss ts spD (.lst (G.map rowD)) cmD d11 v12 v13) [11] = true) (hpl : ∀ zs, plainR (ro27 zs n (.val (rowD p)) v3 v4 ss ts spD (.lst (G.map rowD)) cmD d11 v12 v13) [11] = true) (hb11 : ∀ zs zs' q, backR (ro27 zs n (.val (rowD p)) v3 v4 ss ts spD (.lst (G.map rowD)) cmD d11 v12 v13) (ro27 zs' n (.val (rowD p)) v3 v4 ss ts spD (.lst (G.map rowD)) cmD (.val q) v12 v13) [11] = ro27 zs' n (.val (rowD p)) v3 v4 ss ts spD (.lst (G.map rowD)) cmD d11 v12 v13) :
    ∃ ys, q3__law_right_k27 (ro27 xs n (.val (rowD p)) v3 v4 ss ts spD (.lst (G.map rowD)) cmD d11 v12 v13) = .ok [] (ro27 ys n (.val (rowD p)) v3 v4 ss ts spD (.lst (G.map rowD)) cmD d11 v12 v13) ∧ Bowl (b + 27) ys := by
  obtain ⟨ρ', e, ys, rfl, hy⟩ := lcM_opt2 (vs := [11]) (t := .sl 11) (c := tOf (m2 (ninO "System" m_System___contains__) (mCall m__law_sum 3 [] (mCons (mVar 2) (mCons (mVar 11) (mCons (m2 addD (mC (.int 1)) (mIo m__law_bit 1 0 (mCons (mC (.int 9)) mNil))) mNil)))) (mVar 7))) (el := e3__law_right_k27) (F := fun _ => none)
    (I := fun j ρ => ∃ zs, ρ = ro27 zs n (.val (rowD p)) v3 v4 ss ts spD (.lst (G.map rowD)) cmD d11 v12 v13 ∧ Bowl (b + j) zs) (G.map rowD) [] 0 _ (by rw [sizeLine_eq, List.length_map]; simp; omega) ⟨xs, rfl, hB⟩ (fun d hd j ρ j0 j1 hI => by
      obtain ⟨zs, rfl, hz⟩ := hI
      rw [List.length_map] at j1
      obtain ⟨q, hq, rfl⟩ := List.mem_map.mp hd
      obtain ⟨sq, mq⟩ := hG q hq
      obtain ⟨k, ys, e1, k9, hy⟩ := e_bit hz (m := 9) (by decide) (by decide) (by omega)
      have sk : Sz 8 (1 + (k : Int)) := by unfold Sz; omega
      have es := e_sum (p := p) (q := q) (by rw [hp.len]; omega) sk sq.sz (by decide)
      have en := e_nin h (plus_pt hp sq sk)
      rw [metAll_plus h (by omega) hp.len sq.len mp mq] at en
      refine ⟨hpl zs, ro27 ys n (.val (rowD p)) v3 v4 ss ts spD (.lst (G.map rowD)) cmD d11 v12 v13, ?_, ys, rfl, hy⟩
      have hw : putT (.sl 11) (rowD q) (wipeR (ro27 zs n (.val (rowD p)) v3 v4 ss ts spD (.lst (G.map rowD)) cmD d11 v12 v13) [11]) = .ok () (ro27 zs n (.val (rowD p)) v3 v4 ss ts spD (.lst (G.map rowD)) cmD (.val (rowD q)) v12 v13) := by
        unfold ro27; simp
      have hf : freeR (ro27 ys n (.val (rowD p)) v3 v4 ss ts spD (.lst (G.map rowD)) cmD (.val (rowD q)) v12 v13) [11] = true := by
        unfold ro27; rfl
      unfold turnO
      rw [hw, R.bind_ok]
      have hc : (tOf (m2 (ninO "System" m_System___contains__) (mCall m__law_sum 3 [] (mCons (mVar 2) (mCons (mVar 11) (mCons (m2 addD (mC (.int 1)) (mIo m__law_bit 1 0 (mCons (mC (.int 9)) mNil))) mNil)))) (mVar 7))) (ro27 zs n (.val (rowD p)) v3 v4 ss ts spD (.lst (G.map rowD)) cmD (.val (rowD q)) v12 v13) = .ok false (ro27 ys n (.val (rowD p)) v3 v4 ss ts spD (.lst (G.map rowD)) cmD (.val (rowD q)) v12 v13) := by
        unfold ro27
        simp [e1, es, en]
      rw [hc, R.bind_ok]
      simp only [cond_false]
      rw [hf]
      simp only [cond_true]
      rw [hb11])
  refine ⟨ys, ?_, hy.mono (by rw [List.length_map]; omega)⟩
  rw [filterMap_non, List.append_nil] at e
  unfold q3__law_right_k27
  have hw : (mWalk (mVar 9)) (ro27 xs n (.val (rowD p)) v3 v4 ss ts spD (.lst (G.map rowD)) cmD d11 v12 v13) = .ok (G.map rowD) (ro27 xs n (.val (rowD p)) v3 v4 ss ts spD (.lst (G.map rowD)) cmD d11 v12 v13) := by
    unfold ro27; simp
  unfold mLc
  rw [hw, R.bind_ok, e]
  rfl
end Pm
/-! SF: k27's plain law, the loop over the points that meet. -/
namespace Pm
open PySem PySem.Spec PyProof.Rows L2 Mr
/-- a slot that a comprehension may use -/
def Fr (v : SV) : Prop := v = .un ∨ ∃ d, v = .val d
theorem Fr.io {v : SV} (h : Fr v) : v.isIo = false := by
  rcases h with rfl | ⟨d, rfl⟩ <;> rfl
theorem e_q3' {n : Nat} {ss ts : List Strand} (h : PackOk n ss) (h3 : n ≤ 3) {G : List (List Int)} (hG : ∀ p ∈ G, Spot n p ∧ metAll ss p = true) (lG : G.length ≤ 27) {p : List Int} (hp : Spot n p) (mp : metAll ss p = true) {xs : List D} {b : Nat} (hB : Bowl b xs) (hb : b < 900000) {v3 v4 v12 v13 : SV} {spD cmD : D} {d11 : SV} (h11 : Fr d11) :
    ∃ ys, q3__law_right_k27 (ro27 xs n (.val (rowD p)) v3 v4 ss ts spD (.lst (G.map rowD)) cmD d11 v12 v13) = .ok [] (ro27 ys n (.val (rowD p)) v3 v4 ss ts spD (.lst (G.map rowD)) cmD d11 v12 v13) ∧ Bowl (b + 27) ys := by
  rcases h11 with rfl | ⟨d, rfl⟩
  · exact e_q3 h h3 hG lG hp mp hB hb rfl (fun _ => rfl) (fun _ _ _ => rfl)
  · exact e_q3 h h3 hG lG hp mp hB hb rfl (fun _ => rfl) (fun _ _ _ => rfl)
theorem e_f1 {n : Nat} {ss ts : List Strand} (h : PackOk n ss) (h3 : n ≤ 3) {p : List Int} (hp : Spot n p) (mp : metAll ss p = true) {xs : List D} {v3 v4 v12 v13 : SV} {spD gdD : D} : ∀ (C : List (List Int)), (∀ q ∈ C, Spot n q ∧ nz ss q = []) → ∀ {cmD : D} {v11 : SV}, Fr v11 →
    ∃ w11, forM (.sl 11) y1__law_right_k27 (C.map rowD) (ro27 xs n (.val (rowD p)) v3 v4 ss ts spD gdD cmD v11 v12 v13) = .ok .nx (ro27 xs n (.val (rowD p)) v3 v4 ss ts spD gdD cmD w11 v12 v13) ∧ Fr w11
  | [], _, _, v11, h11 => ⟨v11, by simp, h11⟩
  | q :: C, hC, cmD, v11, h11 => by
    obtain ⟨sq, cq⟩ := hC q (List.mem_cons_self ..)
    obtain ⟨w11, e, g11⟩ := e_f1 h h3 hp mp C (fun z hz => hC z (List.mem_cons_of_mem _ hz)) (cmD := cmD) (v11 := .val (rowD q)) (.inr ⟨_, rfl⟩) (xs := xs) (ts := ts) (v3 := v3) (v4 := v4) (v12 := v12) (v13 := v13) (spD := spD) (gdD := gdD)
    refine ⟨w11, ?_, g11⟩
    have s5 := e_sum (p := p) (q := q) (k := 5) (a := 8) (by rw [hp.len]; omega) (by unfold Sz; decide) sq.sz (by decide)
    have s3 := e_sum (p := p) (q := q) (k := -3) (a := 8) (by rw [hp.len]; omega) (by unfold Sz; decide) sq.sz (by decide)
    have n5 := e_nin h (plus_pt hp sq (k := 5) (by unfold Sz; decide))
    have n3 := e_nin h (plus_pt hp sq (k := -3) (by unfold Sz; decide))
    rw [metAll_calm h hp.len sq.len cq, mp] at n5 n3
    have hy : y1__law_right_k27 (ro27 xs n (.val (rowD p)) v3 v4 ss ts spD gdD cmD (.val (rowD q)) v12 v13) = .ok .nx (ro27 xs n (.val (rowD p)) v3 v4 ss ts spD gdD cmD (.val (rowD q)) v12 v13) := by
      unfold ro27 y1__law_right_k27
      simp [s5, s3, n5, n3]
    have e0 : putT (.sl 11) (rowD q) (ro27 xs n (.val (rowD p)) v3 v4 ss ts spD gdD cmD v11 v12 v13) = .ok () (ro27 xs n (.val (rowD p)) v3 v4 ss ts spD gdD cmD (.val (rowD q)) v12 v13) := by
      have := h11.io
      unfold ro27; simp [this]
    rw [List.map_cons, ap_forC, e0, R.bind_ok, hy, R.bind_ok]
    exact e
theorem e_turn27 {n : Nat} {ss ts : List Strand} (h : PackOk n ss) (h3 : n ≤ 3) {G C : List (List Int)} (hG : ∀ p ∈ G, Spot n p ∧ metAll ss p = true) (lG : G.length ≤ 27) (hC : ∀ q ∈ C, Spot n q ∧ nz ss q = []) {p : List Int} (hp : Spot n p) (mp : metAll ss p = true) {xs : List D} {b : Nat} (hB : Bowl b xs) (hb : b < 900000) {v2 v3 v4 v12 v13 : SV} {spD : D} {v11 : SV} (h2 : v2.isIo = false) (h11 : Fr v11) :
    ∃ ys w11, turnF (.sl 2) y2__law_right_k27 (ro27 xs n v2 v3 v4 ss ts spD (.lst (G.map rowD)) (.lst (C.map rowD)) v11 v12 v13) (rowD p) = .ok .nx (ro27 ys n (.val (rowD p)) v3 v4 ss ts spD (.lst (G.map rowD)) (.lst (C.map rowD)) w11 v12 v13) ∧ Fr w11 ∧ Bowl (b + 27) ys := by
  obtain ⟨ys, e1, hy⟩ := e_q3' h h3 hG lG hp mp hB hb (v3 := v3) (v4 := v4) (v12 := v12) (v13 := v13) (spD := spD) (cmD := .lst (C.map rowD)) (ts := ts) h11
  obtain ⟨w11, e2, g11⟩ := e_f1 h h3 hp mp C hC (xs := ys) (ts := ts) (v3 := v3) (v4 := v4) (v12 := v12) (v13 := v13) (spD := spD) (gdD := .lst (G.map rowD)) (cmD := .lst (C.map rowD)) h11
  refine ⟨ys, w11, ?_, g11, hy⟩
  have e0 : putT (.sl 2) (rowD p) (ro27 xs n v2 v3 v4 ss ts spD (.lst (G.map rowD)) (.lst (C.map rowD)) v11 v12 v13) = .ok () (ro27 xs n (.val (rowD p)) v3 v4 ss ts spD (.lst (G.map rowD)) (.lst (C.map rowD)) v11 v12 v13) := by
    unfold ro27; simp [h2]
  have ew : (mVar 10) (ro27 ys n (.val (rowD p)) v3 v4 ss ts spD (.lst (G.map rowD)) (.lst (C.map rowD)) v11 v12 v13) = .ok (.lst (C.map rowD)) (ro27 ys n (.val (rowD p)) v3 v4 ss ts spD (.lst (G.map rowD)) (.lst (C.map rowD)) v11 v12 v13) := by
    unfold ro27; simp
  have wd : walkD (.lst (C.map rowD)) = .ok (C.map rowD) := rfl
  unfold turnF y2__law_right_k27 f1__law_right_k27
  rw [e0, R.bind_ok]
  simp only [ap_Seq, ap_For]
  simp [e1, lstD_of, sizeLine_eq, ew, wd, e2, op_neS]
end Pm
/-! SG: k27's plain law, the right. -/
namespace Pm
open PySem PySem.Spec PyProof.Rows L2 Mr
theorem okl_rows {L : List (List Int)} : okD 12 (.lst (L.map rowD)) = true := by
  have : ∀ (n : Nat) (R : List (List Int)), okDs (n + 1) (R.map rowD) = true := fun n R => by
    induction R with
    | nil => simp
    | cons r R ih => rw [List.map_cons]; simp [ih]
  simp [okD, this]
theorem metAll_take {ts : List Strand} {p : List Int} (h : metAll ts p = true) (k : Nat) : metAll (ts.take k) p = true := by
  unfold metAll at *
  rw [List.all_eq_true] at *
  exact fun s hs => h s (List.mem_of_mem_take hs)
theorem packOk {n : Nat} {ss : List Strand} (h1 : 1 ≤ n) (h4 : n ≤ 4) (ne : ss ≠ []) (le : ss.length ≤ 12) (hd : ∀ s ∈ ss, Drawn n 2 3 s) : PackOk n ss :=
  ⟨h1, h4, ne, le, fun s hs => (hd s hs).ok (by decide) (by decide)⟩
theorem e_f2 {n : Nat} {ss ts : List Strand} (h : PackOk n ss) (h3 : n ≤ 3) {G C : List (List Int)} (hG : ∀ p ∈ G, Spot n p ∧ metAll ss p = true) (lG : G.length ≤ 27) (hC : ∀ q ∈ C, Spot n q ∧ nz ss q = []) {xs : List D} {b : Nat} (hB : Bowl b xs) (hb : b < 800000) {v3 v4 v12 v13 : SV} {spD : D} :
    ∃ ys w2 w11, f2__law_right_k27 (ro27 xs n .un v3 v4 ss ts spD (.lst (G.map rowD)) (.lst (C.map rowD)) .un v12 v13) = .ok .nx (ro27 ys n w2 v3 v4 ss ts spD (.lst (G.map rowD)) (.lst (C.map rowD)) w11 v12 v13) ∧ SV.isIo w2 = false ∧ Fr w11 ∧ Bowl (b + 400) ys := by
  obtain ⟨ρ', f, ys, w2, w11, rfl, g2, g11, hy⟩ := forM_at (t := .sl 2) (body := y2__law_right_k27)
    (I := fun i ρ => ∃ zs w2 w11, ρ = ro27 zs n w2 v3 v4 ss ts spD (.lst (G.map rowD)) (.lst (C.map rowD)) w11 v12 v13 ∧ SV.isIo w2 = false ∧ Fr w11 ∧ Bowl (b + 27 * i) zs)
    ((G.take 12).map rowD) 0 _ ⟨xs, .un, .un, rfl, rfl, .inl rfl, by simpa using hB⟩ (fun i d ρ hd hI => by
      obtain ⟨zs, w2, w11, rfl, g2, g11, hz⟩ := hI
      have hi := (List.getElem?_eq_some_iff.mp hd).1
      rw [List.length_map, List.length_take] at hi
      rw [List.getElem?_map] at hd
      obtain ⟨p, hp, rfl⟩ := Option.map_eq_some_iff.mp hd
      obtain ⟨sp, mp⟩ := hG p (List.mem_of_mem_take (List.mem_of_getElem? hp))
      obtain ⟨ys, u11, e, k11, hy⟩ := e_turn27 h h3 hG lG hC sp mp hz (by omega) g2 g11 (v3 := v3) (v4 := v4) (v12 := v12) (v13 := v13) (spD := spD) (ts := ts)
      exact ⟨_, e, ys, _, u11, rfl, rfl, k11, hy.mono (by omega)⟩)
  rw [List.length_map, List.length_take] at hy
  refine ⟨ys, w2, w11, ?_, g2, g11, hy.mono (by omega)⟩
  have s12 : sliceD (.lst (G.map rowD)) none (some 12) = .ok (.lst ((G.take 12).map rowD)) := by
    show FR.ok (D.lst (Mr.cutD (G.map rowD) none (some ((12 : Nat) : Int)))) = _
    rw [cut_take, ← List.map_take]
  have ew : (mVar 9) (ro27 xs n .un v3 v4 ss ts spD (.lst (G.map rowD)) (.lst (C.map rowD)) .un v12 v13) = .ok (.lst (G.map rowD)) (ro27 xs n .un v3 v4 ss ts spD (.lst (G.map rowD)) (.lst (C.map rowD)) .un v12 v13) := by
    unfold ro27; simp
  obtain ⟨U, hU⟩ : ∃ U, U = (G.take 12).map rowD := ⟨_, rfl⟩
  rw [← hU] at f s12
  have wd : walkD (.lst U) = .ok U := rfl
  unfold f2__law_right_k27
  simp [ew, s12, wd, f]
theorem e_right27 {xs : List D} {b : Nat} (hB : Bowl b xs) (hb : b < 100000) : ∃ ys, m__law_right_k27 (.own true xs) [] = .ok (.bl true) (.own true ys) ∧ Bowl (b + 3000) ys := by
  obtain ⟨j, x1, e1, j3, b1⟩ := e_bit hB (m := 3) (by decide) (by decide) (by omega)
  obtain ⟨n, hn⟩ : ∃ n, n = 1 + j := ⟨_, rfl⟩
  have hn' : 1 + (j : Int) = (n : Int) := by omega
  have h1 : 1 ≤ n := by omega
  have h3 : n ≤ 3 := by omega
  obtain ⟨ss, x2, e2, nes, ls, ds, b2⟩ := e_pack (m := 5) b1 h1 (by omega) (by decide) (by decide) (by omega)
  obtain ⟨ts, x3, e3, net, lt, dt, b3⟩ := e_pack (m := 4) b2 h1 (by omega) (by decide) (by decide) (by omega)
  have e2 : m__law_pack (.own true x1) [.int n, .int 5] = .ok (.tup (ss.map sD)) (.own true x2) := e2
  have e3 : m__law_pack (.own true x2) [.int n, .int 4] = .ok (.tup (ts.map sD)) (.own true x3) := e3
  have ps := packOk h1 (by omega) nes (by omega) ds
  have pt := packOk h1 (by omega) net (by omega) dt
  have i1 := e_init ps
  have i2 := e_init pt
  have esp := e_spots h1 h3
  obtain ⟨lsp, hsp⟩ := spots_ok h1 h3
  obtain ⟨SP, hSP⟩ : ∃ SP, SP = spots n := ⟨_, rfl⟩
  rw [← hSP] at esp lsp hsp
  have spot : ∀ p ∈ SP, Spot n p := fun p hp => ⟨(hsp p hp).1, (hsp p hp).2⟩
  obtain ⟨G, hG⟩ : ∃ G, G = SP.filter fun p => metAll ss p := ⟨_, rfl⟩
  obtain ⟨C, hC⟩ : ∃ C, C = SP.filter fun p => (nz ss p).isEmpty := ⟨_, rfl⟩
  have lG : G.length ≤ 27 := by rw [hG]; exact Nat.le_trans (List.length_filter_le _ _) lsp
  have gG : ∀ p ∈ G, Spot n p ∧ metAll ss p = true := fun p hp => by
    rw [hG] at hp
    exact ⟨spot p (List.mem_filter.mp hp).1, (List.mem_filter.mp hp).2⟩
  have gC : ∀ q ∈ C, Spot n q ∧ nz ss q = [] := fun q hq => by
    rw [hC] at hq
    exact ⟨spot q (List.mem_filter.mp hq).1, by simpa using (List.mem_filter.mp hq).2⟩
  have q2 : q2__law_right_k27 [.own true x3, .val (.int n), .un, .un, .un, .val (.tup (ss.map sD)), .val (.tup (ts.map sD)), .val (sysD n ss), .val (.lst (SP.map rowD)), .un, .un, .un, .un, .un, .un] = .ok (G.map rowD) [.own true x3, .val (.int n), .un, .un, .un, .val (.tup (ss.map sD)), .val (.tup (ts.map sD)), .val (sysD n ss), .val (.lst (SP.map rowD)), .un, .un, .un, .un, .un, .un] := by
    unfold q2__law_right_k27
    simp
    rw [filt_in (fun p => metAll ss p) SP rfl (by omega) fun p hp => by
      have := e_in ps (spot p hp).pt
      cases hb : metAll ss p <;> rw [hb] at this <;> simp [turnO, e2__law_right_k27, this]]
    rw [← hG]; rfl
  have q1 : q1__law_right_k27 [.own true x3, .val (.int n), .un, .un, .un, .val (.tup (ss.map sD)), .val (.tup (ts.map sD)), .val (sysD n ss), .val (.lst (SP.map rowD)), .un, .un, .un, .un, .un, .un] = .ok (C.map rowD) [.own true x3, .val (.int n), .un, .un, .un, .val (.tup (ss.map sD)), .val (.tup (ts.map sD)), .val (sysD n ss), .val (.lst (SP.map rowD)), .un, .un, .un, .un, .un, .un] := by
    unfold q1__law_right_k27
    simp
    rw [filt_in (fun p => (nz ss p).isEmpty) SP rfl (by omega) fun p hp => by
      have := e_is_calm ps (spot p hp).pt.sz
      cases hb : (nz ss p).isEmpty <;> rw [hb] at this <;> simp [turnO, e1__law_right_k27, this]]
    rw [← hC]; rfl
  obtain ⟨x4, w2, w11, f2, g2, g11, b4⟩ := e_f2 (ts := ts) (v3 := .un) (v4 := .un) (v12 := .un) (v13 := .un) (spD := .lst (SP.map rowD)) ps h3 gG lG gC b3 (by omega)
  -- the mixtures
  have a1 : addD (.tup (ss.map sD)) (.tup (ts.map sD)) = .ok (.tup ((ss ++ ts).map sD)) := by
    rw [List.map_append]
    exact if_pos (by rw [sizeLine_eq, List.length_map, List.length_map]; omega)
  have s1 : sliceD (.tup (ts.map sD)) none (some 1) = .ok (.tup ((ts.take 1).map sD)) := by
    show FR.ok (D.tup (Mr.cutD (ts.map sD) none (some ((1 : Nat) : Int)))) = _
    rw [cut_take, ← List.map_take]
  have a2 : addD (.tup (ss.map sD)) (.tup ((ts.take 1).map sD)) = .ok (.tup ((ss ++ ts.take 1).map sD)) := by
    rw [List.map_append]
    exact if_pos (by rw [sizeLine_eq, List.length_map, List.length_map, List.length_take]; omega)
  have a3 : addD (.tup ((ss ++ ts.take 1).map sD)) (.tup (ts.map sD)) = .ok (.tup ((ss ++ ts.take 1 ++ ts).map sD)) := by
    rw [List.map_append (l₁ := ss ++ ts.take 1)]
    exact if_pos (by rw [sizeLine_eq, List.length_map, List.length_map, List.length_append, List.length_take]; omega)
  have lmix : (ss ++ ts.take 1 ++ ts).length ≤ 12 := by rw [List.length_append, List.length_append, List.length_take]; omega
  obtain ⟨zs, x5, e5, p5, b5⟩ := e_dealtT (ds := (ss ++ ts.take 1 ++ ts).map sD) b4 (by rw [List.length_map]; omega) (by omega)
  obtain ⟨ms, rfl, pp⟩ := perm_map p5
  rw [List.length_map] at b5
  have pb : PackOk n (ss ++ ts) := packOk h1 (by omega) (by simp [nes]) (by rw [List.length_append]; omega) fun s hs => (List.mem_append.mp hs).elim (ds s) (dt s)
  have pm : PackOk n ms := packOk h1 (by omega) (fun e => by
      have := pp.length_eq
      rw [e, List.length_append, List.length_append] at this
      have := List.length_pos_iff.mpr nes
      simp at *
      omega) (by rw [pp.length_eq]; exact lmix) fun s hs => by
    rcases List.mem_append.mp (pp.mem_iff.mp hs) with hs | hs
    · rcases List.mem_append.mp hs with hs | hs
      · exact ds s hs
      · exact dt s (List.mem_of_mem_take hs)
    · exact dt s hs
  have i3 := e_init pb
  have i4 := e_init pm
  obtain ⟨DU, hDU⟩ : ∃ DU, DU = G.filter fun p => metAll ts p := ⟨_, rfl⟩
  have E1 : (SP.filter fun p => metAll (ss ++ ts) p) = DU := by
    rw [hDU, hG, List.filter_filter]
    exact List.filter_congr fun p _ => by rw [metAll_append, Bool.and_comm]
  have E2 : (SP.filter fun p => metAll ms p) = DU := by
    rw [← E1]
    refine List.filter_congr fun p _ => ?_
    rw [metAll_perm pp, metAll_append, metAll_append, metAll_append]
    cases hb : metAll ts p with
    | false => simp
    | true => rw [metAll_take hb]; simp
  have q4 : q4__law_right_k27 [.own true x5, .val (.int n), w2, .val (sysD n ts), .un, .val (.tup (ss.map sD)), .val (.tup (ts.map sD)), .val (sysD n ss), .val (.lst (SP.map rowD)), .val (.lst (G.map rowD)), .val (.lst (C.map rowD)), w11, .val (sysD n (ss ++ ts)), .val (sysD n ms), .un] = .ok (DU.map rowD) [.own true x5, .val (.int n), w2, .val (sysD n ts), .un, .val (.tup (ss.map sD)), .val (.tup (ts.map sD)), .val (sysD n ss), .val (.lst (SP.map rowD)), .val (.lst (G.map rowD)), .val (.lst (C.map rowD)), w11, .val (sysD n (ss ++ ts)), .val (sysD n ms), .un] := by
    unfold q4__law_right_k27
    simp
    rw [filt_in (fun p => metAll ts p) G rfl (by omega) fun p hp => by
      have := e_in pt (gG p hp).1.pt
      cases hb : metAll ts p <;> rw [hb] at this <;> simp [turnO, e4__law_right_k27, this]]
    rw [← hDU]; rfl
  have q5 : q5__law_right_k27 [.own true x5, .val (.int n), w2, .val (sysD n ts), .val (.lst (DU.map rowD)), .val (.tup (ss.map sD)), .val (.tup (ts.map sD)), .val (sysD n ss), .val (.lst (SP.map rowD)), .val (.lst (G.map rowD)), .val (.lst (C.map rowD)), w11, .val (sysD n (ss ++ ts)), .val (sysD n ms), .un] = .ok (DU.map rowD) [.own true x5, .val (.int n), w2, .val (sysD n ts), .val (.lst (DU.map rowD)), .val (.tup (ss.map sD)), .val (.tup (ts.map sD)), .val (sysD n ss), .val (.lst (SP.map rowD)), .val (.lst (G.map rowD)), .val (.lst (C.map rowD)), w11, .val (sysD n (ss ++ ts)), .val (sysD n ms), .un] := by
    unfold q5__law_right_k27
    simp
    rw [filt_in (fun p => metAll (ss ++ ts) p) SP rfl (by omega) fun p hp => by
      have := e_in pb (spot p hp).pt
      cases hb : metAll (ss ++ ts) p <;> rw [hb] at this <;> simp [turnO, e5__law_right_k27, this]]
    rw [E1]; rfl
  have q6 : q6__law_right_k27 [.own true x5, .val (.int n), w2, .val (sysD n ts), .val (.lst (DU.map rowD)), .val (.tup (ss.map sD)), .val (.tup (ts.map sD)), .val (sysD n ss), .val (.lst (SP.map rowD)), .val (.lst (G.map rowD)), .val (.lst (C.map rowD)), w11, .val (sysD n (ss ++ ts)), .val (sysD n ms), .un] = .ok (DU.map rowD) [.own true x5, .val (.int n), w2, .val (sysD n ts), .val (.lst (DU.map rowD)), .val (.tup (ss.map sD)), .val (.tup (ts.map sD)), .val (sysD n ss), .val (.lst (SP.map rowD)), .val (.lst (G.map rowD)), .val (.lst (C.map rowD)), w11, .val (sysD n (ss ++ ts)), .val (sysD n ms), .un] := by
    unfold q6__law_right_k27
    simp
    rw [filt_in (fun p => metAll ms p) SP rfl (by omega) fun p hp => by
      have := e_in pm (spot p hp).pt
      cases hb : metAll ms p <;> rw [hb] at this <;> simp [turnO, e6__law_right_k27, this]]
    rw [E2]; rfl
  have hs : ∀ (qs : List Strand), SV.ins true "System" ["own_strands", "own_width"] [.tup (qs.map sD), .int n] = .ins true "System" ["own_strands", "own_width"] [.tup (qs.map sD), .int n] := fun _ => rfl
  have ds1 : ∀ qs : List Strand, D.obj "System" ["own_strands", "own_width"] [.tup (qs.map sD), .int n] = sysD n qs := fun _ => rfl
  refine ⟨x5, ?_, b5.mono (by omega)⟩
  unfold ro27 at f2
  have tz : tupleD [.lst (ms.map sD)] = .ok (.tup (ms.map sD)) := rfl
  have oku := op_eqS (x := .lst (DU.map rowD)) okl_rows
  obtain ⟨A1, hA1⟩ : ∃ A1, A1 = ss.map sD := ⟨_, rfl⟩
  obtain ⟨A2, hA2⟩ : ∃ A2, A2 = ts.map sD := ⟨_, rfl⟩
  obtain ⟨A3, hA3⟩ : ∃ A3, A3 = (ss ++ ts).map sD := ⟨_, rfl⟩
  obtain ⟨A4, hA4⟩ : ∃ A4, A4 = (ss ++ ts.take 1).map sD := ⟨_, rfl⟩
  obtain ⟨A5, hA5⟩ : ∃ A5, A5 = (ss ++ ts.take 1 ++ ts).map sD := ⟨_, rfl⟩
  obtain ⟨A6, hA6⟩ : ∃ A6, A6 = ms.map sD := ⟨_, rfl⟩
  obtain ⟨A7, hA7⟩ : ∃ A7, A7 = (ts.take 1).map sD := ⟨_, rfl⟩
  obtain ⟨GL, hGL⟩ : ∃ GL, GL = G.map rowD := ⟨_, rfl⟩
  obtain ⟨CL, hCL⟩ : ∃ CL, CL = C.map rowD := ⟨_, rfl⟩
  obtain ⟨SL, hSL⟩ : ∃ SL, SL = SP.map rowD := ⟨_, rfl⟩
  obtain ⟨DL, hDL⟩ : ∃ DL, DL = DU.map rowD := ⟨_, rfl⟩
  have d1 := ds1 ss
  have d2 := ds1 ts
  have d3 := ds1 (ss ++ ts)
  have d4 := ds1 ms
  simp only [← hA1, ← hA2, ← hA3, ← hA4, ← hA5, ← hA6, ← hA7, ← hGL, ← hCL, ← hSL, ← hDL] at e2 e3 i1 i2 i3 i4 esp q1 q2 q4 q5 q6 f2 a1 a2 a3 s1 e5 tz oku d1 d2 d3 d4
  unfold m__law_right_k27 b__law_right_k27 runI
  simp [-op_tupleL, e1, hn', e2, e3, tupD_of, sizeLine_eq, mMake, i1, d1, esp, q2, q1, f2, g2, a1, i3, d3, s1, a2, a3, e5, tz, i4, d4, i2, d2, q4, q5, q6, oku]
end Pm
namespace K26
open PySem PySem.Spec PyProof.Rows L2 Mr Pm
def topS (i : Nat) : Stmt := PySem.Challenge.pw_staystarts_k26_whole_points_that_meet.main.body.getD i (.Pass ⟨0, 0, 0, 0⟩)
def ls : List LamM := []
instance lamI : Lam := ⟨lamT ls⟩
/-- what the text's top has left -/
structure Tx (w : World) (K : PySem.W.Frag) (mg : Str → Option Value) where
  a30 : Addr
  fd30 : FuncData
  f30 : FunD K "_law_bowl" "_law_bowl" (defArgs (topS 30)) (defBody (topS 30)) (defScope (topS 30)) [] [] a30 fd30
  g30 : mg "_law_bowl" = some (.ref a30)
  a31 : Addr
  fd31 : FuncData
  f31 : FunD K "_law_bit" "_law_bit" (defArgs (topS 31)) (defBody (topS 31)) (defScope (topS 31)) [] [] a31 fd31
  g31 : mg "_law_bit" = some (.ref a31)
  a32 : Addr
  fd32 : FuncData
  f32 : FunD K "_law_pick" "_law_pick" (defArgs (topS 32)) (defBody (topS 32)) (defScope (topS 32)) [] [] a32 fd32
  g32 : mg "_law_pick" = some (.ref a32)
  a34 : Addr
  fd34 : FuncData
  f34 : FunD K "_law_small" "_law_small" (defArgs (topS 34)) (defBody (topS 34)) (defScope (topS 34)) [] [] a34 fd34
  g34 : mg "_law_small" = some (.ref a34)
  a35 : Addr
  fd35 : FuncData
  f35 : FunD K "_law_line" "_law_line" (defArgs (topS 35)) (defBody (topS 35)) (defScope (topS 35)) [] [] a35 fd35
  g35 : mg "_law_line" = some (.ref a35)
  a36 : Addr
  fd36 : FuncData
  f36 : FunD K "_law_strand" "_law_strand" (defArgs (topS 36)) (defBody (topS 36)) (defScope (topS 36)) [] [] a36 fd36
  g36 : mg "_law_strand" = some (.ref a36)
  a33 : Addr
  fd33 : FuncData
  f33 : FunD K "_law_dealt" "_law_dealt" (defArgs (topS 33)) (defBody (topS 33)) (defScope (topS 33)) [] [] a33 fd33
  g33 : mg "_law_dealt" = some (.ref a33)
  a37 : Addr
  fd37 : FuncData
  f37 : FunD K "_law_pack" "_law_pack" (defArgs (topS 37)) (defBody (topS 37)) (defScope (topS 37)) [] [] a37 fd37
  g37 : mg "_law_pack" = some (.ref a37)
  a4 : Addr
  fd4 : FuncData
  f4 : FunD K "is_integer" "is_integer" (defArgs (topS 4)) (defBody (topS 4)) (defScope (topS 4)) [] [] a4 fd4
  g4 : mg "is_integer" = some (.ref a4)
  a6 : Addr
  fd6 : FuncData
  f6 : FunD K "is_row" "is_row" (defArgs (topS 6)) (defBody (topS 6)) (defScope (topS 6)) [] [] a6 fd6
  g6 : mg "is_row" = some (.ref a6)
  a13 : Addr
  fd13 : FuncData
  f13 : FunD K "value_by" "value_by" (defArgs (topS 13)) (defBody (topS 13)) (defScope (topS 13)) [] [] a13 fd13
  g13 : mg "value_by" = some (.ref a13)
  a22 : Addr
  fd22 : FuncData
  f22 : FunD K "first_sign" "first_sign" (defArgs (topS 22)) (defBody (topS 22)) (defScope (topS 22)) [] [] a22 fd22
  g22 : mg "first_sign" = some (.ref a22)
  a23 : Addr
  fd23 : FuncData
  f23 : FunD K "is_met" "is_met" (defArgs (topS 23)) (defBody (topS 23)) (defScope (topS 23)) [] [] a23 fd23
  g23 : mg "is_met" = some (.ref a23)
  a28 : Addr
  fd28 : FuncData
  f28 : FunD K "meets" "meets" (defArgs (topS 28)) (defBody (topS 28)) (defScope (topS 28)) [] [] a28 fd28
  g28 : mg "meets" = some (.ref a28)
  a26_8 : Addr
  fd26_8 : FuncData
  f26_8 : FunD K "__contains__" "System.__contains__" (defArgs (inCls (topS 26) 8)) (defBody (inCls (topS 26) 8)) (defScope (inCls (topS 26) 8)) [] [] a26_8 fd26_8
  m_System___contains__ : Meth K (He.ga K "System") "__contains__" a26_8
  a40 : Addr
  fd40 : FuncData
  f40 : FunD K "_law_point" "_law_point" (defArgs (topS 40)) (defBody (topS 40)) (defScope (topS 40)) [] [] a40 fd40
  g40 : mg "_law_point" = some (.ref a40)
  a7 : Addr
  fd7 : FuncData
  f7 : FunD K "is_row_within" "is_row_within" (defArgs (topS 7)) (defBody (topS 7)) (defScope (topS 7)) [] [] a7 fd7
  g7 : mg "is_row_within" = some (.ref a7)
  a24 : Addr
  fd24 : FuncData
  f24 : FunD K "is_strand_of" "is_strand_of" (defArgs (topS 24)) (defBody (topS 24)) (defScope (topS 24)) [] [] a24 fd24
  g24 : mg "is_strand_of" = some (.ref a24)
  a25 : Addr
  fd25 : FuncData
  f25 : FunD K "are_strands" "are_strands" (defArgs (topS 25)) (defBody (topS 25)) (defScope (topS 25)) [] [] a25 fd25
  g25 : mg "are_strands" = some (.ref a25)
  a26_0 : Addr
  fd26_0 : FuncData
  f26_0 : FunD K "__init__" "System.__init__" (defArgs (inCls (topS 26) 0)) (defBody (inCls (topS 26) 0)) (defScope (inCls (topS 26) 0)) [] [] a26_0 fd26_0
  k_System : L2.Mk K (He.ga K "System") a26_0
  a38 : Addr
  fd38 : FuncData
  f38 : FunD K "_law_amount" "_law_amount" (defArgs (topS 38)) (defBody (topS 38)) (defScope (topS 38)) [] [] a38 fd38
  g38 : mg "_law_amount" = some (.ref a38)
  a39 : Addr
  fd39 : FuncData
  f39 : FunD K "_law_meets" "_law_meets" (defArgs (topS 39)) (defBody (topS 39)) (defScope (topS 39)) [] [] a39 fd39
  g39 : mg "_law_meets" = some (.ref a39)
  a42 : Addr
  fd42 : FuncData
  f42 : FunD K "_law_right" "_law_right" (defArgs (topS 42)) (defBody (topS 42)) (defScope (topS 42)) [] [] a42 fd42
  g42 : mg "_law_right" = some (.ref a42)
  a41 : Addr
  fd41 : FuncData
  f41 : FunD K "_law_on_row" "_law_on_row" (defArgs (topS 41)) (defBody (topS 41)) (defScope (topS 41)) [] [] a41 fd41
  g41 : mg "_law_on_row" = some (.ref a41)
  a43 : Addr
  fd43 : FuncData
  f43 : FunD K "law" "law" (defArgs (topS 43)) (defBody (topS 43)) (defScope (topS 43)) [] [] a43 fd43
  g43 : mg "law" = some (.ref a43)
  o_InvalidSystem : mg "InvalidSystem" = some (.ref (He.ga K "InvalidSystem"))
  o_System : mg "System" = some (.ref (He.ga K "System"))
  e_InvalidSystem : ExcF K "InvalidSystem"
  f_System_own_strands : ClsF K "System" ["own_strands"]
  f_System_own_width : ClsF K "System" ["own_width"]
  t3 : Tok
  c_GREATEST : mg "GREATEST" = some (.int c_GREATEST t3)
  t20 : Tok
  c_LEAST : mg "LEAST" = some (.str c_LEAST t20)
  t17 : Tok
  c_MAX_ROWS : mg "MAX_ROWS" = some (.int c_MAX_ROWS t17)
  t18 : Tok
  c_MAX_SIZE : mg "MAX_SIZE" = some (.int c_MAX_SIZE t18)
  t16 : Tok
  c_MAX_STRANDS : mg "MAX_STRANDS" = some (.int c_MAX_STRANDS t16)
  t15 : Tok
  c_MAX_WIDTH : mg "MAX_WIDTH" = some (.int c_MAX_WIDTH t15)
  t19 : Tok
  c_MORE : mg "MORE" = some (.str c_MORE t19)
  t21 : Tok
  c_NULL : mg "NULL" = some (.str c_NULL t21)
  t2 : Tok
  c_WIDEST : mg "WIDEST" = some (.int c_WIDEST t2)
  n_abs : mg "abs" = none
  n_all : mg "all" = none
  n_any : mg "any" = none
  n_bool : mg "bool" = none
  n_enumerate : mg "enumerate" = none
  n_int : mg "int" = none
  n_isinstance : mg "isinstance" = none
  n_len : mg "len" = none
  n_list : mg "list" = none
  n_max : mg "max" = none
  n_min : mg "min" = none
  n_range : mg "range" = none
  n_repr : mg "repr" = none
  n_str : mg "str" = none
  n_sum : mg "sum" = none
  n_tuple : mg "tuple" = none
  n_zip : mg "zip" = none
section
variable {P : Program} {w : World} {K : PySem.W.Frag} {mg : Str → Option Value} {base : Heap}
/-! _law_bowl -/
abbrev s__law_bowl : Stmt := topS 30
theorem sc__law_bowl : FnScope ["_law_script", "_law_at", "_law_cell", "_law_great", "_law_blend"] ["_law_script", "_law_at"] (defScope s__law_bowl) := ⟨rfl, rfl, rfl, by decide +kernel, rfl, by decide +kernel, by decide +kernel⟩
theorem bd__law_bowl (T : Tx w K mg) : Binds K T.fd30 ["_law_script", "_law_at"] [] := T.f30.bindsN fun _ _ _ _ _ _ us hl => match us, hl with | [_, _], _ => rfl
theorem ok__law_bowl (T : Tx w K mg) : FnG P w K mg base 1 T.a30 T.fd30 ["_law_script", "_law_at"] (NSp K 2 m__law_bowl) := by
  refine fn_new (N := ["_law_script", "_law_at", "_law_cell", "_law_great", "_law_blend"]) T.f30 sc__law_bowl rfl fun cdv hcd A outer s H E hr => ?_
  have tk := takes_of (X := cxOf (L2.CX P w) P w K mg base ["_law_script", "_law_at", "_law_cell", "_law_great", "_law_blend"] "_law_bowl" (defScope s__law_bowl) T.a30 cdv A outer s H E) (E := E) rfl rfl rfl rfl
  have hp := passes_of (X := cxOf (L2.CX P w) P w K mg base ["_law_script", "_law_at", "_law_cell", "_law_great", "_law_blend"] "_law_bowl" (defScope s__law_bowl) T.a30 cdv A outer s H E) rfl
  have hu := hr.units
  exact (AB.cons (AS.set sc__law_bowl.nd rfl (.inl rfl) (AE.ifx (AT.cmp OA.lt (AE.var (pv 1)) (AE.blt CA.len (by rfl) T.n_len PySem.boot_len (AA.cons (AE.var (pv 0)) AA.nil)) (nomark _)) (AE.ix (AE.var (pv 0)) (AE.var (pv 1))) (AE.bin OA.add (AE.bin OA.mul AE.int (AE.var (pv 1))) AE.int)))
    (AB.cons (AS.set sc__law_bowl.nd rfl (.inl rfl) (AE.bin OA.mod (AE.bty CA.int (by rfl) T.n_int (by decide +kernel) (AA.cons (AE.blt CA.abs (by rfl) T.n_abs (by decide +kernel) (AA.cons (AE.var (pv 2)) AA.nil)) AA.nil)) (AE.bin OA.pow (AE.bin OA.pow AE.int AE.int) AE.int)))
    (AB.cons (AS.set sc__law_bowl.nd rfl (.inl rfl) (AE.bin OA.add (AE.bin OA.add (AE.bin OA.add (AE.bin OA.mul (AE.bin OA.mod (AE.bty CA.int (by rfl) T.n_int (by decide +kernel) (AA.cons (AE.var (pv 3)) AA.nil)) AE.int) AE.int) (AE.bin OA.mul AE.int (AE.var (pv 1)))) (AE.bin OA.mul AE.int (AE.bty CA.int (by rfl) T.n_int (by decide +kernel) (AA.cons (AE.cmp OA.lt (AE.var (pv 2)) AE.int (nomark _)) AA.nil)))) AE.int))
    (AB.one (AS.retNew (AN.lst (AA.cons (AE.blt (CA.max2 rfl) (by rfl) T.n_max (by decide +kernel) (AA.cons AE.int (AA.cons (AE.bin OA.sub (AE.var (pv 3)) (AE.bin OA.pow AE.int AE.int)) AA.nil))) (AA.cons (AE.bin OA.mod (AE.bty CA.int (by rfl) T.n_int (by decide +kernel) (AA.cons (AE.var (pv 4)) AA.nil)) AE.int) (AA.cons AE.int AA.nil)))))))))
/-! _law_bit -/
abbrev s__law_bit : Stmt := topS 31
theorem sc__law_bit : FnScope ["_law_bowl_here", "_law_among", "_law_one", "_law_two", "_law_found"] ["_law_bowl_here", "_law_among"] (defScope s__law_bit) := ⟨rfl, rfl, rfl, by decide +kernel, rfl, by decide +kernel, by decide +kernel⟩
theorem bd__law_bit (T : Tx w K mg) : Binds K T.fd31 ["_law_bowl_here", "_law_among"] [] := T.f31.bindsN fun _ _ _ _ _ _ us hl => match us, hl with | [_, _], _ => rfl
theorem ok__law_bit (T : Tx w K mg) : FnG P w K mg base 1 T.a31 T.fd31 ["_law_bowl_here", "_law_among"] (ISp K 1 m__law_bit) := by
  refine fn_io (N := ["_law_bowl_here", "_law_among", "_law_one", "_law_two", "_law_found"]) T.f31 sc__law_bit rfl fun cdv hcd A outer s H E hr => ?_
  have tk := takes_of (X := cxOf (L2.CX P w) P w K mg base ["_law_bowl_here", "_law_among", "_law_one", "_law_two", "_law_found"] "_law_bit" (defScope s__law_bit) T.a31 cdv A outer s H E) (E := E) rfl rfl rfl rfl
  have hp := passes_of (X := cxOf (L2.CX P w) P w K mg base ["_law_bowl_here", "_law_among", "_law_one", "_law_two", "_law_found"] "_law_bit" (defScope s__law_bit) T.a31 cdv A outer s H E) rfl
  have hu := hr.units
  exact (AB.cons (AS.if_ (AT.cmp OA.gt (AE.ixN (pv 0) AE.int) AE.int (nomark _)) (AB.cons (AS.set sc__law_bit.nd rfl (.inl rfl) (AE.bin OA.mod (AE.bty CA.int (by rfl) T.n_int (by decide +kernel) (AA.cons (AE.ixN (pv 0) AE.int) AA.nil)) (AE.var (pv 1))))
    (AB.cons (AS.setIx (AE.bin OA.div (AE.ixN (pv 0) AE.int) (AE.var (pv 1))) (pv 0) AE.int)
    (AB.one (AS.ret (AE.var (pv 4)))))) AB.nil)
    (AB.cons (AS.setIx (AE.bin OA.add (AE.ixN (pv 0) AE.int) AE.int) (pv 0) AE.int)
    (AB.cons (AS.set sc__law_bit.nd rfl (.inl rfl) (AE.bin OA.mod (AE.bty CA.int (by rfl) T.n_int (by decide +kernel) (AA.cons (AE.bin OA.add (AE.ixN (pv 0) AE.int) (AE.bin OA.mul AE.int (AE.ixN (pv 0) AE.int))) AA.nil)) AE.int))
    (AB.cons (AS.set sc__law_bit.nd rfl (.inl rfl) (AE.bin OA.add (AE.bin OA.mul (AE.bin OA.mod (AE.bty CA.int (by rfl) T.n_int (by decide +kernel) (AA.cons (AE.bin OA.mul (AE.var (pv 2)) (AE.var (pv 2))) AA.nil)) AE.int) (AE.var (pv 2))) (AE.bin OA.mul AE.int (AE.ixN (pv 0) AE.int))))
    (AB.one (AS.ret (AE.bin OA.mod (AE.bty CA.int (by rfl) T.n_int (by decide +kernel) (AA.cons (AE.bin OA.div (AE.bin OA.mod (AE.bty CA.int (by rfl) T.n_int (by decide +kernel) (AA.cons (AE.var (pv 3)) AA.nil)) AE.int) AE.int) AA.nil)) (AE.var (pv 1)))))))))
/-! _law_pick -/
abbrev s__law_pick : Stmt := topS 32
theorem sc__law_pick : FnScope ["_law_bowl_here", "_law_items"] ["_law_bowl_here", "_law_items"] (defScope s__law_pick) := ⟨rfl, rfl, rfl, by decide +kernel, rfl, by decide +kernel, by decide +kernel⟩
theorem bd__law_pick (T : Tx w K mg) : Binds K T.fd32 ["_law_bowl_here", "_law_items"] [] := T.f32.bindsN fun _ _ _ _ _ _ us hl => match us, hl with | [_, _], _ => rfl
theorem ok__law_pick (T : Tx w K mg) : FnG P w K mg base 2 T.a32 T.fd32 ["_law_bowl_here", "_law_items"] (ISp K 1 m__law_pick) := by
  refine fn_io (N := ["_law_bowl_here", "_law_items"]) T.f32 sc__law_pick rfl fun cdv hcd A outer s H E hr => ?_
  have tk := takes_of (X := cxOf (L2.CX P w) P w K mg base ["_law_bowl_here", "_law_items"] "_law_pick" (defScope s__law_pick) T.a32 cdv A outer s H E) (E := E) rfl rfl rfl rfl
  have hp := passes_of (X := cxOf (L2.CX P w) P w K mg base ["_law_bowl_here", "_law_items"] "_law_pick" (defScope s__law_pick) T.a32 cdv A outer s H E) rfl
  have hu := hr.units
  exact (AB.one (AS.ret (AE.ix (AE.var (pv 1)) (AE.callIo (ok__law_bit T) (hr.mono (by decide)) (by rfl) T.g31 T.f31.kp (bd__law_bit T) tk (pv 0) (AA.cons (AE.blt CA.len (by rfl) T.n_len PySem.boot_len (AA.cons (AE.var (pv 1)) AA.nil)) AA.nil)))))
/-! _law_small -/
abbrev s__law_small : Stmt := topS 34
theorem sc__law_small : FnScope ["_law_bowl_here", "_law_most", "_law_lot"] ["_law_bowl_here", "_law_most"] (defScope s__law_small) := ⟨rfl, rfl, rfl, by decide +kernel, rfl, by decide +kernel, by decide +kernel⟩
theorem bd__law_small (T : Tx w K mg) : Binds K T.fd34 ["_law_bowl_here", "_law_most"] [] := T.f34.bindsN fun _ _ _ _ _ _ us hl => match us, hl with | [_, _], _ => rfl
theorem ok__law_small (T : Tx w K mg) : FnG P w K mg base 2 T.a34 T.fd34 ["_law_bowl_here", "_law_most"] (ISp K 1 m__law_small) := by
  refine fn_io (N := ["_law_bowl_here", "_law_most", "_law_lot"]) T.f34 sc__law_small rfl fun cdv hcd A outer s H E hr => ?_
  have tk := takes_of (X := cxOf (L2.CX P w) P w K mg base ["_law_bowl_here", "_law_most", "_law_lot"] "_law_small" (defScope s__law_small) T.a34 cdv A outer s H E) (E := E) rfl rfl rfl rfl
  have hp := passes_of (X := cxOf (L2.CX P w) P w K mg base ["_law_bowl_here", "_law_most", "_law_lot"] "_law_small" (defScope s__law_small) T.a34 cdv A outer s H E) rfl
  have hu := hr.units
  exact (AB.cons (AS.set sc__law_small.nd rfl (.inl rfl) (AE.callIo (ok__law_bit T) (hr.mono (by decide)) (by rfl) T.g31 T.f31.kp (bd__law_bit T) tk (pv 0) (AA.cons AE.int AA.nil)))
    (AB.one (AS.ret (AE.ifx (AT.cmp OA.lt (AE.var (pv 2)) AE.int (nomark _)) (AE.var (pv 2)) (AE.bin OA.sub (AE.callIo (ok__law_bit T) (hr.mono (by decide)) (by rfl) T.g31 T.f31.kp (bd__law_bit T) tk (pv 0) (AA.cons (AE.bin OA.add (AE.bin OA.mul AE.int (AE.var (pv 1))) AE.int) AA.nil)) (AE.var (pv 1)))))))
/-! _law_line -/
abbrev s__law_line : Stmt := topS 35
theorem sc__law_line : FnScope ["_law_bowl_here", "_law_size", "_law_most", "_law_turn"] ["_law_bowl_here", "_law_size", "_law_most"] (defScope s__law_line) := ⟨rfl, rfl, rfl, by decide +kernel, rfl, by decide +kernel, by decide +kernel⟩
theorem bd__law_line (T : Tx w K mg) : Binds K T.fd35 ["_law_bowl_here", "_law_size", "_law_most"] [] := T.f35.bindsN fun _ _ _ _ _ _ us hl => match us, hl with | [_, _, _], _ => rfl
theorem ok__law_line (T : Tx w K mg) : FnG P w K mg base 3 T.a35 T.fd35 ["_law_bowl_here", "_law_size", "_law_most"] (ISp K 2 m__law_line) := by
  refine fn_io (N := ["_law_bowl_here", "_law_size", "_law_most", "_law_turn"]) T.f35 sc__law_line rfl fun cdv hcd A outer s H E hr => ?_
  have tk := takes_of (X := cxOf (L2.CX P w) P w K mg base ["_law_bowl_here", "_law_size", "_law_most", "_law_turn"] "_law_line" (defScope s__law_line) T.a35 cdv A outer s H E) (E := E) rfl rfl rfl rfl
  have hp := passes_of (X := cxOf (L2.CX P w) P w K mg base ["_law_bowl_here", "_law_size", "_law_most", "_law_turn"] "_law_line" (defScope s__law_line) T.a35 cdv A outer s H E) rfl
  have hu := hr.units
  exact (AB.one (AS.ret (AE.bty CA.tuple (by rfl) T.n_tuple (by decide +kernel) (AA.cons (AE.ofN (AN.lc (own := [("_law_turn", 3)]) (t := (.sl 3)) rfl sc__law_line.nd (AI.range1 (by rfl) T.n_range (AA.cons (AE.var (pv 1)) AA.nil)) (blkOk_by (N := ["_law_bowl_here", "_law_size", "_law_most", "_law_turn"]) (sc := defScope s__law_line) (by decide +kernel)) (by decide) (fun _ _ _ _ _ => (AG.name sc__law_line.nd rfl (by first | exact .inl rfl | exact .inr rfl))) (fun _ _ _ _ _ => ATs.nil) (fun _ _ _ _ _ => (AE.callIo (ok__law_small T) (hr.mono (by decide)) (by rfl) T.g34 T.f34.kp (bd__law_small T) takes0 (pv 0) (AA.cons (AE.var (pv 2)) AA.nil))))) AA.nil))))
/-! _law_strand -/
abbrev s__law_strand : Stmt := topS 36
theorem sc__law_strand : FnScope ["_law_bowl_here", "_law_size", "_law_most", "_law_depth", "_law_sign", "_law_lines", "_law_turn"] ["_law_bowl_here", "_law_size", "_law_most", "_law_depth"] (defScope s__law_strand) := ⟨rfl, rfl, rfl, by decide +kernel, rfl, by decide +kernel, by decide +kernel⟩
theorem bd__law_strand (T : Tx w K mg) : Binds K T.fd36 ["_law_bowl_here", "_law_size", "_law_most", "_law_depth"] [] := T.f36.bindsN fun _ _ _ _ _ _ us hl => match us, hl with | [_, _, _, _], _ => rfl
theorem ok__law_strand (T : Tx w K mg) : FnG P w K mg base 4 T.a36 T.fd36 ["_law_bowl_here", "_law_size", "_law_most", "_law_depth"] (ISp K 3 m__law_strand) := by
  refine fn_io (N := ["_law_bowl_here", "_law_size", "_law_most", "_law_depth", "_law_sign", "_law_lines", "_law_turn"]) T.f36 sc__law_strand rfl fun cdv hcd A outer s H E hr => ?_
  have tk := takes_of (X := cxOf (L2.CX P w) P w K mg base ["_law_bowl_here", "_law_size", "_law_most", "_law_depth", "_law_sign", "_law_lines", "_law_turn"] "_law_strand" (defScope s__law_strand) T.a36 cdv A outer s H E) (E := E) rfl rfl rfl rfl
  have hp := passes_of (X := cxOf (L2.CX P w) P w K mg base ["_law_bowl_here", "_law_size", "_law_most", "_law_depth", "_law_sign", "_law_lines", "_law_turn"] "_law_strand" (defScope s__law_strand) T.a36 cdv A outer s H E) rfl
  have hu := hr.units
  exact (AB.cons (AS.set sc__law_strand.nd rfl (.inl rfl) (AE.callIo (ok__law_pick T) (hr.mono (by decide)) (by rfl) T.g32 T.f32.kp (bd__law_pick T) tk (pv 0) (AA.cons (AE.lst (AA.cons AE.str (AA.cons AE.str (AA.cons AE.str (AA.cons AE.str (AA.cons AE.str AA.nil)))))) AA.nil)))
    (AB.cons (AS.own sc__law_strand.nd rfl (.inl rfl) (AN.lst AA.nil))
    (AB.cons (AS.for_ hp rfl (AI.range1 (by rfl) T.n_range (AA.cons (AE.bin OA.add AE.int (AE.callIo (ok__law_bit T) (hr.mono (by decide)) (by rfl) T.g31 T.f31.kp (bd__law_bit T) tk (pv 0) (AA.cons (AE.var (pv 3)) AA.nil))) AA.nil)) (AG.name sc__law_strand.nd rfl (.inl rfl)) (AB.one (AS.expr (AE.app (pv 5) (AE.ifx (AT.cmp OA.gt (AE.callIo (ok__law_bit T) (hr.mono (by decide)) (by rfl) T.g31 T.f31.kp (bd__law_bit T) tk (pv 0) (AA.cons AE.int AA.nil)) AE.int (nomark _)) (AE.callIo (ok__law_line T) (hr.mono (by decide)) (by rfl) T.g35 T.f35.kp (bd__law_line T) tk (pv 0) (AA.cons (AE.var (pv 1)) (AA.cons (AE.var (pv 2)) AA.nil))) (AE.bin OA.mul (AE.tup (AA.cons AE.int AA.nil)) (AE.var (pv 1))))))))
    (AB.one (AS.ret (AE.tup (AA.cons (AE.var (pv 4)) (AA.cons (AE.bty CA.tuple (by rfl) T.n_tuple (by decide +kernel) (AA.cons (AE.var (pv 5)) AA.nil)) AA.nil))))))))
/-! _law_dealt -/
abbrev s__law_dealt : Stmt := topS 33
theorem sc__law_dealt : FnScope ["_law_bowl_here", "_law_items", "_law_waits", "_law_turn"] ["_law_bowl_here", "_law_items"] (defScope s__law_dealt) := ⟨rfl, rfl, rfl, by decide +kernel, rfl, by decide +kernel, by decide +kernel⟩
theorem bd__law_dealt (T : Tx w K mg) : Binds K T.fd33 ["_law_bowl_here", "_law_items"] [] := T.f33.bindsN fun _ _ _ _ _ _ us hl => match us, hl with | [_, _], _ => rfl
theorem ok__law_dealt (T : Tx w K mg) : FnG P w K mg base 2 T.a33 T.fd33 ["_law_bowl_here", "_law_items"] (ISp K 1 m__law_dealt) := by
  refine fn_io (N := ["_law_bowl_here", "_law_items", "_law_waits", "_law_turn"]) T.f33 sc__law_dealt rfl fun cdv hcd A outer s H E hr => ?_
  have tk := takes_of (X := cxOf (L2.CX P w) P w K mg base ["_law_bowl_here", "_law_items", "_law_waits", "_law_turn"] "_law_dealt" (defScope s__law_dealt) T.a33 cdv A outer s H E) (E := E) rfl rfl rfl rfl
  have hp := passes_of (X := cxOf (L2.CX P w) P w K mg base ["_law_bowl_here", "_law_items", "_law_waits", "_law_turn"] "_law_dealt" (defScope s__law_dealt) T.a33 cdv A outer s H E) rfl
  have hu := hr.units
  exact (AB.cons (AS.own sc__law_dealt.nd rfl (.inr rfl) (AN.list (by rfl) T.n_list (AA.cons (AE.var (pv 1)) AA.nil)))
    (AB.one (AS.ret (AE.ofN (AN.lc (own := [("_law_turn", 3)]) (t := (.sl 3)) rfl sc__law_dealt.nd (AI.range1 (by rfl) T.n_range (AA.cons (AE.blt CA.len (by rfl) T.n_len PySem.boot_len (AA.cons (AE.var (pv 1)) AA.nil)) AA.nil)) (blkOk_by (N := ["_law_bowl_here", "_law_items", "_law_waits", "_law_turn"]) (sc := defScope s__law_dealt) (by decide +kernel)) (by decide) (fun _ _ _ _ _ => (AG.name sc__law_dealt.nd rfl (by first | exact .inl rfl | exact .inr rfl))) (fun _ _ _ _ _ => ATs.nil) (fun _ _ _ _ _ => (AE.popAt (pv 2) (AE.callIo (ok__law_bit T) (hr.mono (by decide)) (by rfl) T.g31 T.f31.kp (bd__law_bit T) takes0 (pv 0) (AA.cons (AE.lenN (pv 2) (by rfl) T.n_len) AA.nil)))))))))
/-! _law_pack -/
abbrev s__law_pack : Stmt := topS 37
theorem sc__law_pack : FnScope ["_law_bowl_here", "_law_size", "_law_most", "_law_found", "_law_flipped", "_law_turn", "_law_sign", "_law_lines", "_law_line_here", "_law_one"] ["_law_bowl_here", "_law_size", "_law_most"] (defScope s__law_pack) := ⟨rfl, rfl, rfl, by decide +kernel, rfl, by decide +kernel, by decide +kernel⟩
theorem bd__law_pack (T : Tx w K mg) : Binds K T.fd37 ["_law_bowl_here", "_law_size", "_law_most"] [] := T.f37.bindsN fun _ _ _ _ _ _ us hl => match us, hl with | [_, _, _], _ => rfl
theorem ok__law_pack (T : Tx w K mg) : FnG P w K mg base 5 T.a37 T.fd37 ["_law_bowl_here", "_law_size", "_law_most"] (ISp K 2 m__law_pack) := by
  refine fn_io (N := ["_law_bowl_here", "_law_size", "_law_most", "_law_found", "_law_flipped", "_law_turn", "_law_sign", "_law_lines", "_law_line_here", "_law_one"]) T.f37 sc__law_pack rfl fun cdv hcd A outer s H E hr => ?_
  have tk := takes_of (X := cxOf (L2.CX P w) P w K mg base ["_law_bowl_here", "_law_size", "_law_most", "_law_found", "_law_flipped", "_law_turn", "_law_sign", "_law_lines", "_law_line_here", "_law_one"] "_law_pack" (defScope s__law_pack) T.a37 cdv A outer s H E) (E := E) rfl rfl rfl rfl
  have hp := passes_of (X := cxOf (L2.CX P w) P w K mg base ["_law_bowl_here", "_law_size", "_law_most", "_law_found", "_law_flipped", "_law_turn", "_law_sign", "_law_lines", "_law_line_here", "_law_one"] "_law_pack" (defScope s__law_pack) T.a37 cdv A outer s H E) rfl
  have hu := hr.units
  exact (AB.cons (AS.ownLc (own := [("_law_turn", 5)]) (t := (.sl 5)) rfl sc__law_pack.nd rfl rfl (sw_true rfl rfl rfl (by decide +kernel)) (AI.range1 (by rfl) T.n_range (AA.cons (AE.bin OA.add AE.int (AE.callIo (ok__law_bit T) (hr.mono (by decide)) (by rfl) T.g31 T.f31.kp (bd__law_bit T) tk (pv 0) (AA.cons (AE.var (pv 2)) AA.nil))) AA.nil)) (blkOk_by (N := ["_law_bowl_here", "_law_size", "_law_most", "_law_found", "_law_flipped", "_law_turn", "_law_sign", "_law_lines", "_law_line_here", "_law_one"]) (sc := defScope s__law_pack) (by decide +kernel)) (by decide) (fun _ _ _ _ _ => (AG.name sc__law_pack.nd rfl (by first | exact .inl rfl | exact .inr rfl))) (fun _ _ _ _ _ => ATs.nil) (fun _ _ _ _ _ => (AE.callIo (ok__law_strand T) (hr.mono (by decide)) (by rfl) T.g36 T.f36.kp (bd__law_strand T) takes0 (pv 0) (AA.cons (AE.var (pv 1)) (AA.cons AE.int (AA.cons AE.int AA.nil))))))
    (AB.cons (AS.if_ (AT.cmp (OA.eq hu) (AE.callIo (ok__law_bit T) (hr.mono (by decide)) (by rfl) T.g31 T.f31.kp (bd__law_bit T) tk (pv 0) (AA.cons AE.int AA.nil)) AE.int (nomark _)) (AB.cons (AS.asg (AE.peek 3 (AE.callIo (ok__law_pick T) (hr.mono (by decide)) (by rfl) T.g32 T.f32.kp (bd__law_pick T) tk (pv 0) (AA.cons (AE.var (pv 3)) AA.nil))) (AG.tup rfl (AGs.cons (AG.name sc__law_pack.nd rfl (.inl rfl)) (AGs.cons (AG.name sc__law_pack.nd rfl (.inl rfl)) AGs.nil))))
    (AB.cons (AS.set sc__law_pack.nd rfl (.inl rfl) (AE.bty CA.tuple (by rfl) T.n_tuple (by decide +kernel) (AA.cons (AE.ofN (AN.lc (own := [("_law_line_here", 8)]) (t := (.sl 8)) rfl sc__law_pack.nd (AI.any (AE.var (pv 7))) (blkOk_by (N := ["_law_bowl_here", "_law_size", "_law_most", "_law_found", "_law_flipped", "_law_turn", "_law_sign", "_law_lines", "_law_line_here", "_law_one"]) (sc := defScope s__law_pack) (by decide +kernel)) (by decide) (fun _ _ _ _ _ => (AG.name sc__law_pack.nd rfl (by first | exact .inl rfl | exact .inr rfl))) (fun _ _ _ _ _ => ATs.nil) (fun _ _ _ _ _ => (AE.bty CA.tuple (by rfl) T.n_tuple (by decide +kernel) (AA.cons (AE.ofN (AN.lc (own := [("_law_one", 9)]) (t := (.sl 9)) rfl sc__law_pack.nd (AI.any (AE.var (pv 8))) (blkOk_by (N := ["_law_bowl_here", "_law_size", "_law_most", "_law_found", "_law_flipped", "_law_turn", "_law_sign", "_law_lines", "_law_line_here", "_law_one"]) (by kernel_rfl)) (by decide) (fun _ _ _ _ _ => (AG.name sc__law_pack.nd rfl (by first | exact .inl rfl | exact .inr rfl))) (fun _ _ _ _ _ => ATs.nil) (fun _ _ _ _ _ => (AE.bin OA.sub AE.int (AE.var (pv 9)))))) AA.nil))))) AA.nil)))
    (AB.one (AS.expr (AE.app (pv 3) (AE.tup (AA.cons (AE.callIo (ok__law_pick T) (hr.mono (by decide)) (by rfl) T.g32 T.f32.kp (bd__law_pick T) tk (pv 0) (AA.cons (AE.lst (AA.cons AE.str (AA.cons AE.str (AA.cons (AE.var (pv 6)) AA.nil)))) AA.nil)) (AA.cons (AE.slice (AE.var (pv 4)) AO.none (AO.some (AE.bin OA.add AE.int (AE.callIo (ok__law_bit T) (hr.mono (by decide)) (by rfl) T.g31 T.f31.kp (bd__law_bit T) tk (pv 0) (AA.cons (AE.blt CA.len (by rfl) T.n_len PySem.boot_len (AA.cons (AE.var (pv 4)) AA.nil)) AA.nil))))) AA.nil)))))))) AB.nil)
    (AB.one (AS.ret (AE.bty CA.tuple (by rfl) T.n_tuple (by decide +kernel) (AA.cons (AE.callIo (ok__law_dealt T) (hr.mono (by decide)) (by rfl) T.g33 T.f33.kp (bd__law_dealt T) tk (pv 0) (AA.cons (AE.var (pv 3)) AA.nil)) AA.nil))))))
/-! is_integer -/
abbrev s_is_integer : Stmt := topS 4
theorem sc_is_integer : FnScope ["value"] ["value"] (defScope s_is_integer) := ⟨rfl, rfl, rfl, by decide +kernel, rfl, by decide +kernel, by decide +kernel⟩
theorem bd_is_integer (T : Tx w K mg) : Binds K T.fd4 ["value"] [] := T.f4.bindsN fun _ _ _ _ _ _ us hl => match us, hl with | [_], _ => rfl
theorem ok_is_integer (T : Tx w K mg) : FnG P w K mg base 1 T.a4 T.fd4 ["value"] (PSp K 1 m_is_integer) := by
  refine fn_val (N := ["value"]) T.f4 sc_is_integer rfl fun cdv hcd A outer s H E hr => ?_
  have tk := takes_of (X := cxOf (L2.CX P w) P w K mg base ["value"] "is_integer" (defScope s_is_integer) T.a4 cdv A outer s H E) (E := E) rfl rfl rfl rfl
  have hp := passes_of (X := cxOf (L2.CX P w) P w K mg base ["value"] "is_integer" (defScope s_is_integer) T.a4 cdv A outer s H E) rfl
  have hu := hr.units
  exact (AB.one (AS.ret (AE.and (AE.blt CA.isi (by rfl) T.n_isinstance (by decide +kernel) (AA.cons (AE.var (pv 0)) (AA.cons (AE.ty (T := "int") (by rfl) T.n_int (by decide +kernel)) AA.nil))) (AE.and (AE.not (AE.blt CA.isi (by rfl) T.n_isinstance (by decide +kernel) (AA.cons (AE.var (pv 0)) (AA.cons (AE.ty (T := "bool") (by rfl) T.n_bool (by decide +kernel)) AA.nil)))) (AE.one (AE.chain OA.le OA.le (AE.un UA.neg (AE.gint rfl T.c_GREATEST)) (AE.var (pv 0)) (AE.gint rfl T.c_GREATEST)))))))
/-! is_row -/
abbrev s_is_row : Stmt := topS 6
theorem sc_is_row : FnScope ["value", "number"] ["value"] (defScope s_is_row) := ⟨rfl, rfl, rfl, by decide +kernel, rfl, by decide +kernel, by decide +kernel⟩
theorem bd_is_row (T : Tx w K mg) : Binds K T.fd6 ["value"] [] := T.f6.bindsN fun _ _ _ _ _ _ us hl => match us, hl with | [_], _ => rfl
theorem ok_is_row (T : Tx w K mg) : FnG P w K mg base 2 T.a6 T.fd6 ["value"] (PSp K 1 m_is_row) := by
  refine fn_val (N := ["value", "number"]) T.f6 sc_is_row rfl fun cdv hcd A outer s H E hr => ?_
  have tk := takes_of (X := cxOf (L2.CX P w) P w K mg base ["value", "number"] "is_row" (defScope s_is_row) T.a6 cdv A outer s H E) (E := E) rfl rfl rfl rfl
  have hp := passes_of (X := cxOf (L2.CX P w) P w K mg base ["value", "number"] "is_row" (defScope s_is_row) T.a6 cdv A outer s H E) rfl
  have hu := hr.units
  exact (AB.cons (AS.if_ (AW.pt (AW.or (AT.not (AT.val (AE.blt CA.isi (by rfl) T.n_isinstance (by decide +kernel) (AA.cons (AE.var (pv 0)) (AA.cons (AE.ty (T := "tuple") (by rfl) T.n_tuple (by decide +kernel)) AA.nil))))) (AW.or1 (AT.not (AT.chain OA.le OA.le AE.int (AE.blt CA.len (by rfl) T.n_len PySem.boot_len (AA.cons (AE.var (pv 0)) AA.nil)) (AE.gint rfl T.c_WIDEST)))))) (AB.one (AS.ret AE.bl)) AB.nil)
    (AB.one (AS.ret (AE.blt (CA.all rfl) (by rfl) T.n_all (by decide +kernel) (AA.cons (AE.ofN (AN.lc (own := [("number", 1)]) (t := (.sl 1)) rfl sc_is_row.nd (AI.any (AE.var (pv 0))) (blkOk_by (N := ["value", "number"]) (sc := defScope s_is_row) (by decide +kernel)) (by decide) (fun _ _ _ _ _ => (AG.name sc_is_row.nd rfl (by first | exact .inl rfl | exact .inr rfl))) (fun _ _ _ _ _ => ATs.nil) (fun _ _ _ _ _ => (AE.call (ok_is_integer T) (hr.mono (by decide)) (by rfl) T.g4 T.f4.kp (bd_is_integer T) .nil (fun _ _ => .nil) takes0 (AA.cons (AE.var (pv 1)) AA.nil))))) AA.nil)))))
/-! value_by -/
abbrev s_value_by : Stmt := topS 13
theorem sc_value_by : FnScope ["row", "point", "one", "other"] ["row", "point"] (defScope s_value_by) := ⟨rfl, rfl, rfl, by decide +kernel, rfl, by decide +kernel, by decide +kernel⟩
theorem bd_value_by (T : Tx w K mg) : Binds K T.fd13 ["row", "point"] [] := T.f13.bindsN fun _ _ _ _ _ _ us hl => match us, hl with | [_, _], _ => rfl
theorem ok_value_by (T : Tx w K mg) : FnG P w K mg base 1 T.a13 T.fd13 ["row", "point"] (PSp K 2 m_value_by) := by
  refine fn_val (N := ["row", "point", "one", "other"]) T.f13 sc_value_by rfl fun cdv hcd A outer s H E hr => ?_
  have tk := takes_of (X := cxOf (L2.CX P w) P w K mg base ["row", "point", "one", "other"] "value_by" (defScope s_value_by) T.a13 cdv A outer s H E) (E := E) rfl rfl rfl rfl
  have hp := passes_of (X := cxOf (L2.CX P w) P w K mg base ["row", "point", "one", "other"] "value_by" (defScope s_value_by) T.a13 cdv A outer s H E) rfl
  have hu := hr.units
  exact (AB.one (AS.ret (AE.blt (CA.sum rfl) (by rfl) T.n_sum (by decide +kernel) (AA.cons (AE.ofN (AN.lc (own := [("one", 2), ("other", 3)]) (t := (.tp [(.sl 2), (.sl 3)])) rfl sc_value_by.nd (AI.zipM (by rfl) T.n_zip (AA.cons (AE.var (pv 0)) (AA.cons (AE.var (pv 1)) AA.nil))) (blkOk_by (N := ["row", "point", "one", "other"]) (sc := defScope s_value_by) (by decide +kernel)) (by decide) (fun _ _ _ _ _ => (AG.tup rfl (AGs.cons (AG.name sc_value_by.nd rfl (by first | exact .inl rfl | exact .inr rfl)) (AGs.cons (AG.name sc_value_by.nd rfl (by first | exact .inl rfl | exact .inr rfl)) AGs.nil)))) (fun _ _ _ _ _ => ATs.nil) (fun _ _ _ _ _ => (AE.bin OA.mul (AE.var (pv 2)) (AE.var (pv 3)))))) AA.nil))))
/-! first_sign -/
abbrev s_first_sign : Stmt := topS 22
theorem sc_first_sign : FnScope ["rows", "point", "row", "amount"] ["rows", "point"] (defScope s_first_sign) := ⟨rfl, rfl, rfl, by decide +kernel, rfl, by decide +kernel, by decide +kernel⟩
theorem bd_first_sign (T : Tx w K mg) : Binds K T.fd22 ["rows", "point"] [] := T.f22.bindsN fun _ _ _ _ _ _ us hl => match us, hl with | [_, _], _ => rfl
theorem ok_first_sign (T : Tx w K mg) : FnG P w K mg base 2 T.a22 T.fd22 ["rows", "point"] (PSp K 2 m_first_sign) := by
  refine fn_val (N := ["rows", "point", "row", "amount"]) T.f22 sc_first_sign rfl fun cdv hcd A outer s H E hr => ?_
  have tk := takes_of (X := cxOf (L2.CX P w) P w K mg base ["rows", "point", "row", "amount"] "first_sign" (defScope s_first_sign) T.a22 cdv A outer s H E) (E := E) rfl rfl rfl rfl
  have hp := passes_of (X := cxOf (L2.CX P w) P w K mg base ["rows", "point", "row", "amount"] "first_sign" (defScope s_first_sign) T.a22 cdv A outer s H E) rfl
  have hu := hr.units
  exact (AB.cons (AS.for_ hp rfl (AI.any (AE.var (pv 0))) (AG.name sc_first_sign.nd rfl (.inl rfl)) (AB.cons (AS.set sc_first_sign.nd rfl (.inl rfl) (AE.call (ok_value_by T) (hr.mono (by decide)) (by rfl) T.g13 T.f13.kp (bd_value_by T) .nil (fun _ _ => .nil) tk (AA.cons (AE.var (pv 2)) (AA.cons (AE.var (pv 1)) AA.nil))))
    (AB.one (AS.if_ (AT.cmp (OA.ne hu) (AE.var (pv 3)) AE.int (nomark _)) (AB.one (AS.ret (AE.ifx (AT.cmp OA.gt (AE.var (pv 3)) AE.int (nomark _)) AE.int (AE.un UA.neg AE.int)))) AB.nil))))
    (AB.one (AS.ret AE.int)))
/-! is_met -/
abbrev s_is_met : Stmt := topS 23
theorem sc_is_met : FnScope ["strand", "point", "first", "sign", "rows"] ["strand", "point"] (defScope s_is_met) := ⟨rfl, rfl, rfl, by decide +kernel, rfl, by decide +kernel, by decide +kernel⟩
theorem bd_is_met (T : Tx w K mg) : Binds K T.fd23 ["strand", "point"] [] := T.f23.bindsN fun _ _ _ _ _ _ us hl => match us, hl with | [_, _], _ => rfl
theorem ok_is_met (T : Tx w K mg) : FnG P w K mg base 3 T.a23 T.fd23 ["strand", "point"] (PSp K 2 m_is_met) := by
  refine fn_val (N := ["strand", "point", "first", "sign", "rows"]) T.f23 sc_is_met rfl fun cdv hcd A outer s H E hr => ?_
  have tk := takes_of (X := cxOf (L2.CX P w) P w K mg base ["strand", "point", "first", "sign", "rows"] "is_met" (defScope s_is_met) T.a23 cdv A outer s H E) (E := E) rfl rfl rfl rfl
  have hp := passes_of (X := cxOf (L2.CX P w) P w K mg base ["strand", "point", "first", "sign", "rows"] "is_met" (defScope s_is_met) T.a23 cdv A outer s H E) rfl
  have hu := hr.units
  exact (AB.cons (AS.asg (AE.var (pv 0)) (AG.tup rfl (AGs.cons (AG.name sc_is_met.nd rfl (.inl rfl)) (AGs.cons (AG.name sc_is_met.nd rfl (.inl rfl)) AGs.nil))))
    (AB.cons (AS.set sc_is_met.nd rfl (.inl rfl) (AE.call (ok_first_sign T) (hr.mono (by decide)) (by rfl) T.g22 T.f22.kp (bd_first_sign T) .nil (fun _ _ => .nil) tk (AA.cons (AE.var (pv 4)) (AA.cons (AE.var (pv 1)) AA.nil))))
    (AB.cons (AS.if_ (AT.cmp (OA.eq hu) (AE.var (pv 3)) (AE.gstr rfl T.c_NULL) (nomark _)) (AB.one (AS.ret (AE.cmp (OA.eq hu) (AE.var (pv 2)) AE.int (nomark _)))) AB.nil)
    (AB.one (AS.ret (AE.or (AE.cmp (OA.eq hu) (AE.var (pv 2)) AE.int (nomark _)) (AE.one (AE.and (AE.cmp (OA.eq hu) (AE.var (pv 3)) (AE.gstr rfl T.c_LEAST) (nomark _)) (AE.one (AE.cmp (OA.eq hu) (AE.var (pv 2)) AE.int (nomark _)))))))))))
/-! meets -/
abbrev s_meets : Stmt := topS 28
theorem sc_meets : FnScope ["system", "point", "strand"] ["system", "point"] (defScope s_meets) := ⟨rfl, rfl, rfl, by decide +kernel, rfl, by decide +kernel, by decide +kernel⟩
theorem bd_meets (T : Tx w K mg) : Binds K T.fd28 ["system", "point"] [] := T.f28.bindsN fun _ _ _ _ _ _ us hl => match us, hl with | [_, _], _ => rfl
theorem ok_meets (T : Tx w K mg) : FnG P w K mg base 4 T.a28 T.fd28 ["system", "point"] (PSp K 2 m_meets) := by
  refine fn_val (N := ["system", "point", "strand"]) T.f28 sc_meets rfl fun cdv hcd A outer s H E hr => ?_
  have tk := takes_of (X := cxOf (L2.CX P w) P w K mg base ["system", "point", "strand"] "meets" (defScope s_meets) T.a28 cdv A outer s H E) (E := E) rfl rfl rfl rfl
  have hp := passes_of (X := cxOf (L2.CX P w) P w K mg base ["system", "point", "strand"] "meets" (defScope s_meets) T.a28 cdv A outer s H E) rfl
  have hu := hr.units
  exact (AB.cons (AS.if_ (AW.pt (AW.or (AT.not (AT.val (AE.call (ok_is_row T) (hr.mono (by decide)) (by rfl) T.g6 T.f6.kp (bd_is_row T) .nil (fun _ _ => .nil) tk (AA.cons (AE.var (pv 1)) AA.nil)))) (AW.or1 (AT.cmp (OA.ne hu) (AE.blt CA.len (by rfl) T.n_len PySem.boot_len (AA.cons (AE.var (pv 1)) AA.nil)) (AE.fld (cs := ["System"]) (AE.var (pv 0)) (by simp only [List.forall_mem_cons, List.not_mem_nil, false_implies, implies_true, and_true]; exact T.f_System_own_width) (by rfl)) (nomark _))))) (AB.one (AS.ret AE.bl)) AB.nil)
    (AB.one (AS.ret (AE.blt (CA.all rfl) (by rfl) T.n_all (by decide +kernel) (AA.cons (AE.ofN (AN.lc (own := [("strand", 2)]) (t := (.sl 2)) rfl sc_meets.nd (AI.any (AE.fld (cs := ["System"]) (AE.var (pv 0)) (by simp only [List.forall_mem_cons, List.not_mem_nil, false_implies, implies_true, and_true]; exact T.f_System_own_strands) (by rfl))) (blkOk_by (N := ["system", "point", "strand"]) (sc := defScope s_meets) (by decide +kernel)) (by decide) (fun _ _ _ _ _ => (AG.name sc_meets.nd rfl (by first | exact .inl rfl | exact .inr rfl))) (fun _ _ _ _ _ => ATs.nil) (fun _ _ _ _ _ => (AE.call (ok_is_met T) (hr.mono (by decide)) (by rfl) T.g23 T.f23.kp (bd_is_met T) .nil (fun _ _ => .nil) takes0 (AA.cons (AE.var (pv 2)) (AA.cons (AE.var (pv 1)) AA.nil)))))) AA.nil)))))
/-! System.__contains__ -/
abbrev s_System___contains__ : Stmt := inCls (topS 26) 8
theorem sc_System___contains__ : FnScope ["self", "value"] ["self", "value"] (defScope s_System___contains__) := ⟨rfl, rfl, rfl, by decide +kernel, rfl, by decide +kernel, by decide +kernel⟩
theorem bd_System___contains__ (T : Tx w K mg) : Binds K T.fd26_8 ["self", "value"] [] := T.f26_8.bindsN fun _ _ _ _ _ _ us hl => match us, hl with | [_, _], _ => rfl
theorem ok_System___contains__ (T : Tx w K mg) : FnG P w K mg base 5 T.a26_8 T.fd26_8 ["self", "value"] (PSp K 2 m_System___contains__) := by
  refine fn_val (N := ["self", "value"]) T.f26_8 sc_System___contains__ rfl fun cdv hcd A outer s H E hr => ?_
  have tk := takes_of (X := cxOf (L2.CX P w) P w K mg base ["self", "value"] "System.__contains__" (defScope s_System___contains__) T.a26_8 cdv A outer s H E) (E := E) rfl rfl rfl rfl
  have hp := passes_of (X := cxOf (L2.CX P w) P w K mg base ["self", "value"] "System.__contains__" (defScope s_System___contains__) T.a26_8 cdv A outer s H E) rfl
  have hu := hr.units
  exact (AB.one (AS.ret (AE.call (ok_meets T) (hr.mono (by decide)) (by rfl) T.g28 T.f28.kp (bd_meets T) .nil (fun _ _ => .nil) tk (AA.cons (AE.var (pv 0)) (AA.cons (AE.var (pv 1)) AA.nil)))))
/-! _law_point -/
abbrev s__law_point : Stmt := topS 40
theorem sc__law_point : FnScope ["_law_bowl_here", "_law_size", "_law_at"] ["_law_bowl_here", "_law_size"] (defScope s__law_point) := ⟨rfl, rfl, rfl, by decide +kernel, rfl, by decide +kernel, by decide +kernel⟩
theorem bd__law_point (T : Tx w K mg) : Binds K T.fd40 ["_law_bowl_here", "_law_size"] [] := T.f40.bindsN fun _ _ _ _ _ _ us hl => match us, hl with | [_, _], _ => rfl
theorem ok__law_point (T : Tx w K mg) : FnG P w K mg base 3 T.a40 T.fd40 ["_law_bowl_here", "_law_size"] (ISp K 1 m__law_point) := by
  refine fn_io (N := ["_law_bowl_here", "_law_size", "_law_at"]) T.f40 sc__law_point rfl fun cdv hcd A outer s H E hr => ?_
  have tk := takes_of (X := cxOf (L2.CX P w) P w K mg base ["_law_bowl_here", "_law_size", "_law_at"] "_law_point" (defScope s__law_point) T.a40 cdv A outer s H E) (E := E) rfl rfl rfl rfl
  have hp := passes_of (X := cxOf (L2.CX P w) P w K mg base ["_law_bowl_here", "_law_size", "_law_at"] "_law_point" (defScope s__law_point) T.a40 cdv A outer s H E) rfl
  have hu := hr.units
  exact (AB.one (AS.ret (AE.bty CA.tuple (by rfl) T.n_tuple (by decide +kernel) (AA.cons (AE.ofN (AN.lc (own := [("_law_at", 2)]) (t := (.sl 2)) rfl sc__law_point.nd (AI.range1 (by rfl) T.n_range (AA.cons (AE.var (pv 1)) AA.nil)) (blkOk_by (N := ["_law_bowl_here", "_law_size", "_law_at"]) (sc := defScope s__law_point) (by decide +kernel)) (by decide) (fun _ _ _ _ _ => (AG.name sc__law_point.nd rfl (by first | exact .inl rfl | exact .inr rfl))) (fun _ _ _ _ _ => ATs.nil) (fun _ _ _ _ _ => (AE.callIo (ok__law_pick T) (hr.mono (by decide)) (by rfl) T.g32 T.f32.kp (bd__law_pick T) takes0 (pv 0) (AA.cons (AE.lst (AA.cons AE.int (AA.cons AE.int (AA.cons AE.int (AA.cons (AE.un UA.neg AE.int) (AA.cons AE.int (AA.cons (AE.un UA.neg AE.int) (AA.cons AE.int (AA.cons AE.int AA.nil))))))))) AA.nil))))) AA.nil))))
/-! is_row_within -/
abbrev s_is_row_within : Stmt := topS 7
theorem sc_is_row_within : FnScope ["value", "width", "most", "number"] ["value", "width", "most"] (defScope s_is_row_within) := ⟨rfl, rfl, rfl, by decide +kernel, rfl, by decide +kernel, by decide +kernel⟩
theorem bd_is_row_within (T : Tx w K mg) : Binds K T.fd7 ["value", "width", "most"] [] := T.f7.bindsN fun _ _ _ _ _ _ us hl => match us, hl with | [_, _, _], _ => rfl
theorem ok_is_row_within (T : Tx w K mg) : FnG P w K mg base 3 T.a7 T.fd7 ["value", "width", "most"] (PSp K 3 m_is_row_within) := by
  refine fn_val (N := ["value", "width", "most", "number"]) T.f7 sc_is_row_within rfl fun cdv hcd A outer s H E hr => ?_
  have tk := takes_of (X := cxOf (L2.CX P w) P w K mg base ["value", "width", "most", "number"] "is_row_within" (defScope s_is_row_within) T.a7 cdv A outer s H E) (E := E) rfl rfl rfl rfl
  have hp := passes_of (X := cxOf (L2.CX P w) P w K mg base ["value", "width", "most", "number"] "is_row_within" (defScope s_is_row_within) T.a7 cdv A outer s H E) rfl
  have hu := hr.units
  exact (AB.one (AS.ret (AE.and (AE.call (ok_is_row T) (hr.mono (by decide)) (by rfl) T.g6 T.f6.kp (bd_is_row T) .nil (fun _ _ => .nil) tk (AA.cons (AE.var (pv 0)) AA.nil)) (AE.and (AE.cmp (OA.eq hu) (AE.blt CA.len (by rfl) T.n_len PySem.boot_len (AA.cons (AE.var (pv 0)) AA.nil)) (AE.var (pv 1)) (nomark _)) (AE.one (AE.blt (CA.all rfl) (by rfl) T.n_all (by decide +kernel) (AA.cons (AE.ofN (AN.lc (own := [("number", 3)]) (t := (.sl 3)) rfl sc_is_row_within.nd (AI.any (AE.var (pv 0))) (blkOk_by (N := ["value", "width", "most", "number"]) (sc := defScope s_is_row_within) (by decide +kernel)) (by decide) (fun _ _ _ _ _ => (AG.name sc_is_row_within.nd rfl (by first | exact .inl rfl | exact .inr rfl))) (fun _ _ _ _ _ => ATs.nil) (fun _ _ _ _ _ => (AE.chain OA.le OA.le (AE.un UA.neg (AE.var (pv 2))) (AE.var (pv 3)) (AE.var (pv 2)))))) AA.nil)))))))
/-! is_strand_of -/
abbrev s_is_strand_of : Stmt := topS 24
theorem sc_is_strand_of : FnScope ["value", "width", "sign", "rows", "row"] ["value", "width"] (defScope s_is_strand_of) := ⟨rfl, rfl, rfl, by decide +kernel, rfl, by decide +kernel, by decide +kernel⟩
theorem bd_is_strand_of (T : Tx w K mg) : Binds K T.fd24 ["value", "width"] [] := T.f24.bindsN fun _ _ _ _ _ _ us hl => match us, hl with | [_, _], _ => rfl
theorem ok_is_strand_of (T : Tx w K mg) : FnG P w K mg base 4 T.a24 T.fd24 ["value", "width"] (PSp K 2 m_is_strand_of) := by
  refine fn_val (N := ["value", "width", "sign", "rows", "row"]) T.f24 sc_is_strand_of rfl fun cdv hcd A outer s H E hr => ?_
  have tk := takes_of (X := cxOf (L2.CX P w) P w K mg base ["value", "width", "sign", "rows", "row"] "is_strand_of" (defScope s_is_strand_of) T.a24 cdv A outer s H E) (E := E) rfl rfl rfl rfl
  have hp := passes_of (X := cxOf (L2.CX P w) P w K mg base ["value", "width", "sign", "rows", "row"] "is_strand_of" (defScope s_is_strand_of) T.a24 cdv A outer s H E) rfl
  have hu := hr.units
  exact (AB.cons (AS.if_ (AW.pt (AW.or (AT.not (AT.val (AE.blt CA.isi (by rfl) T.n_isinstance (by decide +kernel) (AA.cons (AE.var (pv 0)) (AA.cons (AE.ty (T := "tuple") (by rfl) T.n_tuple (by decide +kernel)) AA.nil))))) (AW.or (AT.cmp (OA.ne hu) (AE.blt CA.len (by rfl) T.n_len PySem.boot_len (AA.cons (AE.var (pv 0)) AA.nil)) AE.int (nomark _)) (AW.or1 (AT.not (AT.val (AE.blt CA.isi (by rfl) T.n_isinstance (by decide +kernel) (AA.cons (AE.ix (AE.var (pv 0)) AE.int) (AA.cons (AE.ty (T := "str") (by rfl) T.n_str (by decide +kernel)) AA.nil))))))))) (AB.one (AS.ret AE.bl)) AB.nil)
    (AB.cons (AS.asg (AE.var (pv 0)) (AG.tup rfl (AGs.cons (AG.name sc_is_strand_of.nd rfl (.inl rfl)) (AGs.cons (AG.name sc_is_strand_of.nd rfl (.inl rfl)) AGs.nil))))
    (AB.cons (AS.if_ (AW.pt (AW.or (AT.cmp (OA.notIn hu) (AE.var (pv 2)) (AE.tup (AA.cons (AE.gstr rfl T.c_MORE) (AA.cons (AE.gstr rfl T.c_LEAST) (AA.cons (AE.gstr rfl T.c_NULL) AA.nil)))) rfl) (AW.or (AT.not (AT.val (AE.blt CA.isi (by rfl) T.n_isinstance (by decide +kernel) (AA.cons (AE.var (pv 3)) (AA.cons (AE.ty (T := "tuple") (by rfl) T.n_tuple (by decide +kernel)) AA.nil))))) (AW.or1 (AT.not (AT.chain OA.le OA.le AE.int (AE.blt CA.len (by rfl) T.n_len PySem.boot_len (AA.cons (AE.var (pv 3)) AA.nil)) (AE.gint rfl T.c_MAX_ROWS))))))) (AB.one (AS.ret AE.bl)) AB.nil)
    (AB.one (AS.ret (AE.blt (CA.all rfl) (by rfl) T.n_all (by decide +kernel) (AA.cons (AE.ofN (AN.lc (own := [("row", 4)]) (t := (.sl 4)) rfl sc_is_strand_of.nd (AI.any (AE.var (pv 3))) (blkOk_by (N := ["value", "width", "sign", "rows", "row"]) (sc := defScope s_is_strand_of) (by decide +kernel)) (by decide) (fun _ _ _ _ _ => (AG.name sc_is_strand_of.nd rfl (by first | exact .inl rfl | exact .inr rfl))) (fun _ _ _ _ _ => ATs.nil) (fun _ _ _ _ _ => (AE.call (ok_is_row_within T) (hr.mono (by decide)) (by rfl) T.g7 T.f7.kp (bd_is_row_within T) .nil (fun _ _ => .nil) takes0 (AA.cons (AE.var (pv 4)) (AA.cons (AE.var (pv 1)) (AA.cons (AE.gint rfl T.c_MAX_SIZE) AA.nil))))))) AA.nil)))))))
/-! are_strands -/
abbrev s_are_strands : Stmt := topS 25
theorem sc_are_strands : FnScope ["value", "width", "strand"] ["value"] (defScope s_are_strands) := ⟨rfl, rfl, rfl, by decide +kernel, rfl, by decide +kernel, by decide +kernel⟩
theorem bd_are_strands (T : Tx w K mg) : Binds K T.fd25 ["value"] [] := T.f25.bindsN fun _ _ _ _ _ _ us hl => match us, hl with | [_], _ => rfl
theorem ok_are_strands (T : Tx w K mg) : FnG P w K mg base 5 T.a25 T.fd25 ["value"] (PSp K 1 m_are_strands) := by
  refine fn_val (N := ["value", "width", "strand"]) T.f25 sc_are_strands rfl fun cdv hcd A outer s H E hr => ?_
  have tk := takes_of (X := cxOf (L2.CX P w) P w K mg base ["value", "width", "strand"] "are_strands" (defScope s_are_strands) T.a25 cdv A outer s H E) (E := E) rfl rfl rfl rfl
  have hp := passes_of (X := cxOf (L2.CX P w) P w K mg base ["value", "width", "strand"] "are_strands" (defScope s_are_strands) T.a25 cdv A outer s H E) rfl
  have hu := hr.units
  exact (AB.cons (AS.if_ (AW.pt (AW.or (AT.not (AT.val (AE.blt CA.isi (by rfl) T.n_isinstance (by decide +kernel) (AA.cons (AE.var (pv 0)) (AA.cons (AE.ty (T := "tuple") (by rfl) T.n_tuple (by decide +kernel)) AA.nil))))) (AW.or1 (AT.not (AT.chain OA.le OA.le AE.int (AE.blt CA.len (by rfl) T.n_len PySem.boot_len (AA.cons (AE.var (pv 0)) AA.nil)) (AE.gint rfl T.c_MAX_STRANDS)))))) (AB.one (AS.ret AE.bl)) AB.nil)
    (AB.one (AS.ret (AE.blt (CA.any rfl) (by rfl) T.n_any (by decide +kernel) (AA.cons (AE.ofN (AN.lc (own := [("width", 1)]) (t := (.sl 1)) rfl sc_are_strands.nd (AI.range2 (by rfl) T.n_range (AA.cons AE.int (AA.cons (AE.bin OA.add (AE.gint rfl T.c_MAX_WIDTH) AE.int) AA.nil))) (blkOk_by (N := ["value", "width", "strand"]) (sc := defScope s_are_strands) (by decide +kernel)) (by decide) (fun _ _ _ _ _ => (AG.name sc_are_strands.nd rfl (by first | exact .inl rfl | exact .inr rfl))) (fun _ _ _ _ _ => ATs.nil) (fun _ _ _ _ _ => (AE.blt (CA.all rfl) (by rfl) T.n_all (by decide +kernel) (AA.cons (AE.ofN (AN.lc (own := [("strand", 2)]) (t := (.sl 2)) rfl sc_are_strands.nd (AI.any (AE.var (pv 0))) (blkOk_by (N := ["value", "width", "strand"]) (by kernel_rfl)) (by decide) (fun _ _ _ _ _ => (AG.name sc_are_strands.nd rfl (by first | exact .inl rfl | exact .inr rfl))) (fun _ _ _ _ _ => ATs.nil) (fun _ _ _ _ _ => (AE.call (ok_is_strand_of T) (hr.mono (by decide)) (by rfl) T.g24 T.f24.kp (bd_is_strand_of T) .nil (fun _ _ => .nil) takes0 (AA.cons (AE.var (pv 2)) (AA.cons (AE.var (pv 1)) AA.nil)))))) AA.nil))))) AA.nil)))))
/-! System.__init__ -/
abbrev s_System___init__ : Stmt := inCls (topS 26) 0
theorem sc_System___init__ : FnScope ["self", "strands"] ["self", "strands"] (defScope s_System___init__) := ⟨rfl, rfl, rfl, by decide +kernel, rfl, by decide +kernel, by decide +kernel⟩
theorem bd_System___init__ (T : Tx w K mg) : Binds K T.fd26_0 ["self", "strands"] [] := T.f26_0.bindsN fun _ _ _ _ _ _ us hl => match us, hl with | [_, _], _ => rfl
theorem ok_System___init__ (T : Tx w K mg) : FnG P w K mg base 6 T.a26_0 T.fd26_0 ["self", "strands"] (ISp K 1 m_System___init__) := by
  refine fn_io (N := ["self", "strands"]) T.f26_0 sc_System___init__ rfl fun cdv hcd A outer s H E hr => ?_
  have tk := takes_of (X := cxOf (L2.CX P w) P w K mg base ["self", "strands"] "System.__init__" (defScope s_System___init__) T.a26_0 cdv A outer s H E) (E := E) rfl rfl rfl rfl
  have hp := passes_of (X := cxOf (L2.CX P w) P w K mg base ["self", "strands"] "System.__init__" (defScope s_System___init__) T.a26_0 cdv A outer s H E) rfl
  have hu := hr.units
  exact (AB.cons (AS.if_ (AT.not (AT.val (AE.call (ok_are_strands T) (hr.mono (by decide)) (by rfl) T.g25 T.f25.kp (bd_are_strands T) .nil (fun _ _ => .nil) tk (AA.cons (AE.var (pv 1)) AA.nil)))) (AB.one (AS.raise rfl tk T.e_InvalidSystem T.o_InvalidSystem rfl)) AB.nil)
    (AB.cons (AS.fld (AE.var (pv 1)) (pv 0) T.f_System_own_strands)
    (AB.one (AS.fld (AE.blt CA.len (by rfl) T.n_len PySem.boot_len (AA.cons (AE.ix (AE.ix (AE.ix (AE.var (pv 1)) AE.int) AE.int) AE.int) AA.nil)) (pv 0) T.f_System_own_width))))
/-! _law_amount -/
abbrev s__law_amount : Stmt := topS 38
theorem sc__law_amount : FnScope ["_law_form", "_law_spot", "_law_one", "_law_other"] ["_law_form", "_law_spot"] (defScope s__law_amount) := ⟨rfl, rfl, rfl, by decide +kernel, rfl, by decide +kernel, by decide +kernel⟩
theorem bd__law_amount (T : Tx w K mg) : Binds K T.fd38 ["_law_form", "_law_spot"] [] := T.f38.bindsN fun _ _ _ _ _ _ us hl => match us, hl with | [_, _], _ => rfl
theorem ok__law_amount (T : Tx w K mg) : FnG P w K mg base 1 T.a38 T.fd38 ["_law_form", "_law_spot"] (PSp K 2 m__law_amount) := by
  refine fn_val (N := ["_law_form", "_law_spot", "_law_one", "_law_other"]) T.f38 sc__law_amount rfl fun cdv hcd A outer s H E hr => ?_
  have tk := takes_of (X := cxOf (L2.CX P w) P w K mg base ["_law_form", "_law_spot", "_law_one", "_law_other"] "_law_amount" (defScope s__law_amount) T.a38 cdv A outer s H E) (E := E) rfl rfl rfl rfl
  have hp := passes_of (X := cxOf (L2.CX P w) P w K mg base ["_law_form", "_law_spot", "_law_one", "_law_other"] "_law_amount" (defScope s__law_amount) T.a38 cdv A outer s H E) rfl
  have hu := hr.units
  exact (AB.one (AS.ret (AE.blt (CA.sum rfl) (by rfl) T.n_sum (by decide +kernel) (AA.cons (AE.ofN (AN.lc (own := [("_law_one", 2), ("_law_other", 3)]) (t := (.tp [(.sl 2), (.sl 3)])) rfl sc__law_amount.nd (AI.zipM (by rfl) T.n_zip (AA.cons (AE.var (pv 0)) (AA.cons (AE.var (pv 1)) AA.nil))) (blkOk_by (N := ["_law_form", "_law_spot", "_law_one", "_law_other"]) (sc := defScope s__law_amount) (by decide +kernel)) (by decide) (fun _ _ _ _ _ => (AG.tup rfl (AGs.cons (AG.name sc__law_amount.nd rfl (by first | exact .inl rfl | exact .inr rfl)) (AGs.cons (AG.name sc__law_amount.nd rfl (by first | exact .inl rfl | exact .inr rfl)) AGs.nil)))) (fun _ _ _ _ _ => ATs.nil) (fun _ _ _ _ _ => (AE.bin OA.mul (AE.var (pv 2)) (AE.var (pv 3)))))) AA.nil))))
/-! _law_meets -/
abbrev s__law_meets : Stmt := topS 39
theorem sc__law_meets : FnScope ["_law_strand_here", "_law_spot", "_law_figures", "_law_sign", "_law_lines", "_law_figure", "_law_line_here"] ["_law_strand_here", "_law_spot"] (defScope s__law_meets) := ⟨rfl, rfl, rfl, by decide +kernel, rfl, by decide +kernel, by decide +kernel⟩
theorem bd__law_meets (T : Tx w K mg) : Binds K T.fd39 ["_law_strand_here", "_law_spot"] [] := T.f39.bindsN fun _ _ _ _ _ _ us hl => match us, hl with | [_, _], _ => rfl
theorem ok__law_meets (T : Tx w K mg) : FnG P w K mg base 2 T.a39 T.fd39 ["_law_strand_here", "_law_spot"] (PSp K 2 m__law_meets) := by
  refine fn_val (N := ["_law_strand_here", "_law_spot", "_law_figures", "_law_sign", "_law_lines", "_law_figure", "_law_line_here"]) T.f39 sc__law_meets rfl fun cdv hcd A outer s H E hr => ?_
  have tk := takes_of (X := cxOf (L2.CX P w) P w K mg base ["_law_strand_here", "_law_spot", "_law_figures", "_law_sign", "_law_lines", "_law_figure", "_law_line_here"] "_law_meets" (defScope s__law_meets) T.a39 cdv A outer s H E) (E := E) rfl rfl rfl rfl
  have hp := passes_of (X := cxOf (L2.CX P w) P w K mg base ["_law_strand_here", "_law_spot", "_law_figures", "_law_sign", "_law_lines", "_law_figure", "_law_line_here"] "_law_meets" (defScope s__law_meets) T.a39 cdv A outer s H E) rfl
  have hu := hr.units
  exact (AB.cons (AS.asg (AE.var (pv 0)) (AG.tup rfl (AGs.cons (AG.name sc__law_meets.nd rfl (.inl rfl)) (AGs.cons (AG.name sc__law_meets.nd rfl (.inl rfl)) AGs.nil))))
    (AB.cons (AS.setLc (own := [("_law_figure", 5)]) (t := (.sl 5)) rfl sc__law_meets.nd rfl rfl (sw_true rfl rfl rfl (by decide +kernel)) (AI.any (AE.ofN (AN.lc (own := [("_law_line_here", 6)]) (t := (.sl 6)) rfl sc__law_meets.nd (AI.any (AE.var (pv 4))) (blkOk_by (N := ["_law_strand_here", "_law_spot", "_law_figures", "_law_sign", "_law_lines", "_law_figure", "_law_line_here"]) (sc := defScope s__law_meets) (by decide +kernel)) (by decide) (fun _ _ _ _ _ => (AG.name sc__law_meets.nd rfl (by first | exact .inl rfl | exact .inr rfl))) (fun _ _ _ _ _ => ATs.nil) (fun _ _ _ _ _ => (AE.call (ok__law_amount T) (hr.mono (by decide)) (by rfl) T.g38 T.f38.kp (bd__law_amount T) .nil (fun _ _ => .nil) takes0 (AA.cons (AE.var (pv 6)) (AA.cons (AE.var (pv 1)) AA.nil))))))) (blkOk_by (N := ["_law_strand_here", "_law_spot", "_law_figures", "_law_sign", "_law_lines", "_law_figure", "_law_line_here"]) (sc := defScope s__law_meets) (by decide +kernel)) (by decide) (fun _ _ _ _ _ => (AG.name sc__law_meets.nd rfl (by first | exact .inl rfl | exact .inr rfl))) (fun _ _ _ _ _ => (ATs.one (AT.cmp (OA.ne hu) (AE.var (pv 5)) AE.int (nomark _)))) (fun _ _ _ _ _ => (AE.var (pv 5))))
    (AB.cons (AS.if_ (AT.cmp (OA.eq hu) (AE.var (pv 2)) (AE.lst AA.nil) (nomark _)) (AB.one (AS.ret (AE.cmp (OA.ne hu) (AE.var (pv 3)) AE.str (nomark _)))) AB.nil)
    (AB.one (AS.ret (AE.and (AE.cmp (OA.ne hu) (AE.var (pv 3)) AE.str (nomark _)) (AE.one (AE.cmp OA.gt (AE.ix (AE.var (pv 2)) AE.int) AE.int (nomark _)))))))))
/-! _law_right -/
abbrev s__law_right : Stmt := topS 42
theorem sc__law_right : FnScope ["_law_bowl_here", "_law_pack_here", "_law_spot", "_law_system", "_law_due", "_law_away", "_law_back", "_law_calm", "_law_odd", "_law_one", "_law_line_here"] ["_law_bowl_here", "_law_pack_here", "_law_spot"] (defScope s__law_right) := ⟨rfl, rfl, rfl, by decide +kernel, rfl, by decide +kernel, by decide +kernel⟩
theorem bd__law_right (T : Tx w K mg) : Binds K T.fd42 ["_law_bowl_here", "_law_pack_here", "_law_spot"] [] := T.f42.bindsN fun _ _ _ _ _ _ us hl => match us, hl with | [_, _, _], _ => rfl
theorem ok__law_right (T : Tx w K mg) : FnG P w K mg base 8 T.a42 T.fd42 ["_law_bowl_here", "_law_pack_here", "_law_spot"] (PSp K 3 m__law_right_k26) := by
  refine fn_val (N := ["_law_bowl_here", "_law_pack_here", "_law_spot", "_law_system", "_law_due", "_law_away", "_law_back", "_law_calm", "_law_odd", "_law_one", "_law_line_here"]) T.f42 sc__law_right rfl fun cdv hcd A outer s H E hr => ?_
  have tk := takes_of (X := cxOf (L2.CX P w) P w K mg base ["_law_bowl_here", "_law_pack_here", "_law_spot", "_law_system", "_law_due", "_law_away", "_law_back", "_law_calm", "_law_odd", "_law_one", "_law_line_here"] "_law_right" (defScope s__law_right) T.a42 cdv A outer s H E) (E := E) rfl rfl rfl rfl
  have hp := passes_of (X := cxOf (L2.CX P w) P w K mg base ["_law_bowl_here", "_law_pack_here", "_law_spot", "_law_system", "_law_due", "_law_away", "_law_back", "_law_calm", "_law_odd", "_law_one", "_law_line_here"] "_law_right" (defScope s__law_right) T.a42 cdv A outer s H E) rfl
  have hu := hr.units
  exact (AB.cons (AS.set sc__law_right.nd rfl (.inr rfl) (AE.make T.k_System (ok_System___init__ T) (hr.mono (by decide)) (by rfl) T.o_System (bd_System___init__ T) .nil (fun _ _ => .nil) tk (AA.cons (AE.var (pv 1)) AA.nil)))
    (AB.cons (AS.set sc__law_right.nd rfl (.inl rfl) (AE.cmp (OA.eq hu) (AE.ofN (AN.lc (own := [("_law_one", 9)]) (t := (.sl 9)) rfl sc__law_right.nd (AI.any (AE.var (pv 1))) (blkOk_by (N := ["_law_bowl_here", "_law_pack_here", "_law_spot", "_law_system", "_law_due", "_law_away", "_law_back", "_law_calm", "_law_odd", "_law_one", "_law_line_here"]) (sc := defScope s__law_right) (by decide +kernel)) (by decide) (fun _ _ _ _ _ => (AG.name sc__law_right.nd rfl (by first | exact .inl rfl | exact .inr rfl))) (fun _ _ _ _ _ => (ATs.one (AT.not (AT.val (AE.call (ok__law_meets T) (hr.mono (by decide)) (by rfl) T.g39 T.f39.kp (bd__law_meets T) .nil (fun _ _ => .nil) takes0 (AA.cons (AE.var (pv 9)) (AA.cons (AE.var (pv 2)) AA.nil))))))) (fun _ _ _ _ _ => (AE.var (pv 9))))) (AE.lst AA.nil) (nomark _)))
    (AB.cons (AS.set sc__law_right.nd rfl (.inr rfl) (AE.bty CA.tuple (by rfl) T.n_tuple (by decide +kernel) (AA.cons (AE.ofN (AN.lc (own := [("_law_one", 9)]) (t := (.sl 9)) rfl sc__law_right.nd (AI.any (AE.var (pv 2))) (blkOk_by (N := ["_law_bowl_here", "_law_pack_here", "_law_spot", "_law_system", "_law_due", "_law_away", "_law_back", "_law_calm", "_law_odd", "_law_one", "_law_line_here"]) (sc := defScope s__law_right) (by decide +kernel)) (by decide) (fun _ _ _ _ _ => (AG.name sc__law_right.nd rfl (by first | exact .inl rfl | exact .inr rfl))) (fun _ _ _ _ _ => ATs.nil) (fun _ _ _ _ _ => (AE.bin OA.sub AE.int (AE.var (pv 9)))))) AA.nil)))
    (AB.cons (AS.set sc__law_right.nd rfl (.inl rfl) (AE.cmp (OA.eq hu) (AE.ofN (AN.lc (own := [("_law_one", 9)]) (t := (.sl 9)) rfl sc__law_right.nd (AI.any (AE.var (pv 1))) (blkOk_by (N := ["_law_bowl_here", "_law_pack_here", "_law_spot", "_law_system", "_law_due", "_law_away", "_law_back", "_law_calm", "_law_odd", "_law_one", "_law_line_here"]) (sc := defScope s__law_right) (by decide +kernel)) (by decide) (fun _ _ _ _ _ => (AG.name sc__law_right.nd rfl (by first | exact .inl rfl | exact .inr rfl))) (fun _ _ _ _ _ => (ATs.one (AT.not (AT.val (AE.call (ok__law_meets T) (hr.mono (by decide)) (by rfl) T.g39 T.f39.kp (bd__law_meets T) .nil (fun _ _ => .nil) takes0 (AA.cons (AE.var (pv 9)) (AA.cons (AE.var (pv 5)) AA.nil))))))) (fun _ _ _ _ _ => (AE.var (pv 9))))) (AE.lst AA.nil) (nomark _)))
    (AB.cons (AS.if_ (AT.cmp (OA.ne hu) (AE.blt (CA.repr hr.g hu) (by rfl) T.n_repr (by decide +kernel) (AA.cons (AE.lst (AA.cons (AE.cmp (OA.inO hu T.m_System___contains__ (ok_System___contains__ T) (hr.mono (by decide)) (bd_System___contains__ T)) (AE.var (pv 2)) (AE.var (pv 3)) rfl) (AA.cons (AE.cmp (OA.inO hu T.m_System___contains__ (ok_System___contains__ T) (hr.mono (by decide)) (bd_System___contains__ T)) (AE.var (pv 5)) (AE.var (pv 3)) rfl) AA.nil))) AA.nil)) (AE.blt (CA.repr hr.g hu) (by rfl) T.n_repr (by decide +kernel) (AA.cons (AE.lst (AA.cons (AE.var (pv 4)) (AA.cons (AE.var (pv 6)) AA.nil))) AA.nil)) (nomark _)) (AB.one (AS.ret AE.bl)) AB.nil)
    (AB.cons (AS.if_ (AT.cmp (OA.ne hu) (AE.cmp (OA.inO hu T.m_System___contains__ (ok_System___contains__ T) (hr.mono (by decide)) (bd_System___contains__ T)) (AE.bty CA.tuple (by rfl) T.n_tuple (by decide +kernel) (AA.cons (AE.ofN (AN.lc (own := [("_law_one", 9)]) (t := (.sl 9)) rfl sc__law_right.nd (AI.any (AE.var (pv 2))) (blkOk_by (N := ["_law_bowl_here", "_law_pack_here", "_law_spot", "_law_system", "_law_due", "_law_away", "_law_back", "_law_calm", "_law_odd", "_law_one", "_law_line_here"]) (sc := defScope s__law_right) (by decide +kernel)) (by decide) (fun _ _ _ _ _ => (AG.name sc__law_right.nd rfl (by first | exact .inl rfl | exact .inr rfl))) (fun _ _ _ _ _ => ATs.nil) (fun _ _ _ _ _ => (AE.bin OA.mul AE.int (AE.var (pv 9)))))) AA.nil)) (AE.var (pv 3)) rfl) (AE.var (pv 4)) (nomark _)) (AB.one (AS.ret AE.bl)) AB.nil)
    (AB.cons (AS.set sc__law_right.nd rfl (.inl rfl) (AE.cmp (OA.eq hu) (AE.ofN (AN.lc (own := [("_law_one", 9)]) (t := (.sl 9)) rfl sc__law_right.nd (AI.any (AE.var (pv 1))) (blkOk_by (N := ["_law_bowl_here", "_law_pack_here", "_law_spot", "_law_system", "_law_due", "_law_away", "_law_back", "_law_calm", "_law_odd", "_law_one", "_law_line_here"]) (sc := defScope s__law_right) (by decide +kernel)) (by decide) (fun _ _ _ _ _ => (AG.name sc__law_right.nd rfl (by first | exact .inl rfl | exact .inr rfl))) (fun _ _ _ _ _ => (ATs.one (AT.cmp (OA.ne hu) (AE.ofN (AN.lc (own := [("_law_line_here", 10)]) (t := (.sl 10)) rfl sc__law_right.nd (AI.any (AE.ix (AE.var (pv 9)) AE.int)) (blkOk_by (N := ["_law_bowl_here", "_law_pack_here", "_law_spot", "_law_system", "_law_due", "_law_away", "_law_back", "_law_calm", "_law_odd", "_law_one", "_law_line_here"]) (by kernel_rfl)) (by decide) (fun _ _ _ _ _ => (AG.name sc__law_right.nd rfl (by first | exact .inl rfl | exact .inr rfl))) (fun _ _ _ _ _ => (ATs.one (AT.cmp (OA.ne hu) (AE.call (ok__law_amount T) (hr.mono (by decide)) (by rfl) T.g38 T.f38.kp (bd__law_amount T) .nil (fun _ _ => .nil) takes0 (AA.cons (AE.var (pv 10)) (AA.cons (AE.var (pv 2)) AA.nil))) AE.int (nomark _)))) (fun _ _ _ _ _ => (AE.var (pv 10))))) (AE.lst AA.nil) (nomark _)))) (fun _ _ _ _ _ => (AE.var (pv 9))))) (AE.lst AA.nil) (nomark _)))
    (AB.cons (AS.if_ (AW.pt (AW.and (AT.val (AE.var (pv 4))) (AW.and (AT.val (AE.var (pv 6))) (AW.and1 (AT.not (AT.val (AE.var (pv 7)))))))) (AB.one (AS.ret AE.bl)) AB.nil)
    (AB.cons (AS.set sc__law_right.nd rfl (.inl rfl) (AE.lst (AA.cons AE.non (AA.cons AE.int (AA.cons (AE.bty CA.list (by rfl) T.n_list (by decide +kernel) (AA.cons (AE.var (pv 2)) AA.nil)) (AA.cons (AE.bin OA.add (AE.var (pv 2)) (AE.tup (AA.cons AE.int AA.nil))) (AA.cons (AE.slice (AE.var (pv 2)) AO.none (AO.some (AE.un UA.neg AE.int))) (AA.cons (AE.bin OA.add (AE.slice (AE.var (pv 2)) AO.none (AO.some (AE.un UA.neg AE.int))) (AE.tup (AA.cons AE.non AA.nil))) (AA.cons (AE.bin OA.add (AE.slice (AE.var (pv 2)) AO.none (AO.some (AE.un UA.neg AE.int))) (AE.tup (AA.cons AE.bl AA.nil))) (AA.cons AE.str (AA.cons AE.dict0 (AA.cons (AE.lst (AA.cons (AE.var (pv 2)) AA.nil)) AA.nil))))))))))))
    (AB.one (AS.ret (AE.cmp (OA.eq hu) (AE.ofN (AN.lc (own := [("_law_one", 9)]) (t := (.sl 9)) rfl sc__law_right.nd (AI.any (AE.var (pv 8))) (blkOk_by (N := ["_law_bowl_here", "_law_pack_here", "_law_spot", "_law_system", "_law_due", "_law_away", "_law_back", "_law_calm", "_law_odd", "_law_one", "_law_line_here"]) (sc := defScope s__law_right) (by decide +kernel)) (by decide) (fun _ _ _ _ _ => (AG.name sc__law_right.nd rfl (by first | exact .inl rfl | exact .inr rfl))) (fun _ _ _ _ _ => (ATs.one (AT.cmp (OA.inO hu T.m_System___contains__ (ok_System___contains__ T) (hr.mono (by decide)) (bd_System___contains__ T)) (AE.var (pv 9)) (AE.var (pv 3)) rfl))) (fun _ _ _ _ _ => (AE.var (pv 9))))) (AE.lst AA.nil) (nomark _)))))))))))))
/-! _law_on_row -/
abbrev s__law_on_row : Stmt := topS 41
theorem sc__law_on_row : FnScope ["_law_bowl_here", "_law_pack_here", "_law_spot", "_law_line_here", "_law_places", "_law_found", "_law_one", "_law_other", "_law_at"] ["_law_bowl_here", "_law_pack_here", "_law_spot"] (defScope s__law_on_row) := ⟨rfl, rfl, rfl, by decide +kernel, rfl, by decide +kernel, by decide +kernel⟩
theorem bd__law_on_row (T : Tx w K mg) : Binds K T.fd41 ["_law_bowl_here", "_law_pack_here", "_law_spot"] [] := T.f41.bindsN fun _ _ _ _ _ _ us hl => match us, hl with | [_, _, _], _ => rfl
theorem ok__law_on_row (T : Tx w K mg) : FnG P w K mg base 3 T.a41 T.fd41 ["_law_bowl_here", "_law_pack_here", "_law_spot"] (ISp K 2 m__law_on_row) := by
  refine fn_io (N := ["_law_bowl_here", "_law_pack_here", "_law_spot", "_law_line_here", "_law_places", "_law_found", "_law_one", "_law_other", "_law_at"]) T.f41 sc__law_on_row rfl fun cdv hcd A outer s H E hr => ?_
  have tk := takes_of (X := cxOf (L2.CX P w) P w K mg base ["_law_bowl_here", "_law_pack_here", "_law_spot", "_law_line_here", "_law_places", "_law_found", "_law_one", "_law_other", "_law_at"] "_law_on_row" (defScope s__law_on_row) T.a41 cdv A outer s H E) (E := E) rfl rfl rfl rfl
  have hp := passes_of (X := cxOf (L2.CX P w) P w K mg base ["_law_bowl_here", "_law_pack_here", "_law_spot", "_law_line_here", "_law_places", "_law_found", "_law_one", "_law_other", "_law_at"] "_law_on_row" (defScope s__law_on_row) T.a41 cdv A outer s H E) rfl
  have hu := hr.units
  exact (AB.cons (AS.set sc__law_on_row.nd rfl (.inl rfl) (AE.callIo (ok__law_pick T) (hr.mono (by decide)) (by rfl) T.g32 T.f32.kp (bd__law_pick T) tk (pv 0) (AA.cons (AE.ix (AE.callIo (ok__law_pick T) (hr.mono (by decide)) (by rfl) T.g32 T.f32.kp (bd__law_pick T) tk (pv 0) (AA.cons (AE.var (pv 1)) AA.nil)) AE.int) AA.nil)))
    (AB.cons (AS.setLc (own := [("_law_at", 8), ("_law_one", 6)]) (t := (.tp [(.sl 8), (.sl 6)])) rfl sc__law_on_row.nd rfl rfl (sw_true rfl rfl rfl (by decide +kernel)) (AI.enum (by rfl) T.n_enumerate (AA.cons (AE.var (pv 3)) AA.nil)) (blkOk_by (N := ["_law_bowl_here", "_law_pack_here", "_law_spot", "_law_line_here", "_law_places", "_law_found", "_law_one", "_law_other", "_law_at"]) (sc := defScope s__law_on_row) (by decide +kernel)) (by decide) (fun _ _ _ _ _ => (AG.tup rfl (AGs.cons (AG.name sc__law_on_row.nd rfl (by first | exact .inl rfl | exact .inr rfl)) (AGs.cons (AG.name sc__law_on_row.nd rfl (by first | exact .inl rfl | exact .inr rfl)) AGs.nil)))) (fun _ _ _ _ _ => (ATs.one (AT.cmp (OA.ne hu) (AE.var (pv 6)) AE.int (nomark _)))) (fun _ _ _ _ _ => (AE.var (pv 8))))
    (AB.cons (AS.if_ (AT.cmp OA.lt (AE.blt CA.len (by rfl) T.n_len PySem.boot_len (AA.cons (AE.var (pv 4)) AA.nil)) AE.int (nomark _)) (AB.one (AS.ret (AE.var (pv 2)))) AB.nil)
    (AB.cons (AS.par rfl sc__law_on_row.nd rfl rfl (by decide) rfl rfl (AA.cons (AE.ix (AE.var (pv 4)) AE.int) (AA.cons (AE.ix (AE.var (pv 4)) (AE.un UA.neg AE.int)) AA.nil)))
    (AB.cons (AS.own sc__law_on_row.nd rfl (.inl rfl) (AN.mul (AE.lst (AA.cons AE.int AA.nil)) (AE.blt CA.len (by rfl) T.n_len PySem.boot_len (AA.cons (AE.var (pv 2)) AA.nil))))
    (AB.cons (AS.par2 rfl (AE.tup (AA.cons (AE.bin OA.sub AE.int (AE.ix (AE.var (pv 3)) (AE.var (pv 7)))) (AA.cons (AE.ix (AE.var (pv 3)) (AE.var (pv 6))) AA.nil))) (pv 5) (pv 5) (AE.var (pv 6)) (AE.var (pv 7)))
    (AB.one (AS.ret (AE.bty CA.tuple (by rfl) T.n_tuple (by decide +kernel) (AA.cons (AE.var (pv 5)) AA.nil))))))))))
/-! law -/
abbrev s_law : Stmt := topS 43
theorem sc_law : FnScope ["_law_script", "_law_at", "_law_triples", "_law_spots", "_law_told", "_law_due", "_law_bowl_here", "_law_turn", "_law_size", "_law_pack_here", "_law_again", "_law_one", "_law_spot"] ["_law_script"] (defScope s_law) := ⟨rfl, rfl, rfl, by decide +kernel, rfl, by decide +kernel, by decide +kernel⟩
theorem bd_law (T : Tx w K mg) : Binds K T.fd43 ["_law_script"] [] := T.f43.bindsN fun _ _ _ _ _ _ us hl => match us, hl with | [_], _ => rfl
theorem ok_law (T : Tx w K mg) : FnG P w K mg base 9 T.a43 T.fd43 ["_law_script"] (PSp K 1 m_law_k26) := by
  refine fn_val (N := ["_law_script", "_law_at", "_law_triples", "_law_spots", "_law_told", "_law_due", "_law_bowl_here", "_law_turn", "_law_size", "_law_pack_here", "_law_again", "_law_one", "_law_spot"]) T.f43 sc_law rfl fun cdv hcd A outer s H E hr => ?_
  have tk := takes_of (X := cxOf (L2.CX P w) P w K mg base ["_law_script", "_law_at", "_law_triples", "_law_spots", "_law_told", "_law_due", "_law_bowl_here", "_law_turn", "_law_size", "_law_pack_here", "_law_again", "_law_one", "_law_spot"] "law" (defScope s_law) T.a43 cdv A outer s H E) (E := E) rfl rfl rfl rfl
  have hp := passes_of (X := cxOf (L2.CX P w) P w K mg base ["_law_script", "_law_at", "_law_triples", "_law_spots", "_law_told", "_law_due", "_law_bowl_here", "_law_turn", "_law_size", "_law_pack_here", "_law_again", "_law_one", "_law_spot"] "law" (defScope s_law) T.a43 cdv A outer s H E) rfl
  have hu := hr.units
  exact (AB.cons (AS.for_ hp rfl (AI.range1 (by rfl) T.n_range (AA.cons (AE.blt (CA.max2 rfl) (by rfl) T.n_max (by decide +kernel) (AA.cons AE.int (AA.cons (AE.blt (CA.min2 rfl) (by rfl) T.n_min (by decide +kernel) (AA.cons AE.int (AA.cons (AE.blt CA.len (by rfl) T.n_len PySem.boot_len (AA.cons (AE.var (pv 0)) AA.nil)) AA.nil))) AA.nil))) AA.nil)) (AG.name sc_law.nd rfl (.inl rfl)) (AB.cons (AS.own sc_law.nd rfl (.inl rfl) (AN.call (ok__law_bowl T) (hr.mono (by decide)) (by rfl) T.g30 T.f30.kp (bd__law_bowl T) tk (AA.cons (AE.var (pv 0)) (AA.cons (AE.var (pv 1)) AA.nil))))
    (AB.one (AS.for_ hp rfl (AI.range1 (by rfl) T.n_range (AA.cons AE.int AA.nil)) (AG.name sc_law.nd rfl (.inl rfl)) (AB.cons (AS.set sc_law.nd rfl (.inl rfl) (AE.bin OA.add AE.int (AE.callIo (ok__law_bit T) (hr.mono (by decide)) (by rfl) T.g31 T.f31.kp (bd__law_bit T) tk (pv 6) (AA.cons AE.int AA.nil))))
    (AB.cons (AS.set sc_law.nd rfl (.inl rfl) (AE.callIo (ok__law_pack T) (hr.mono (by decide)) (by rfl) T.g37 T.f37.kp (bd__law_pack T) tk (pv 6) (AA.cons (AE.var (pv 8)) (AA.cons AE.int AA.nil))))
    (AB.one (AS.for_ hp rfl (AI.range1 (by rfl) T.n_range (AA.cons AE.int AA.nil)) (AG.name sc_law.nd rfl (.inl rfl)) (AB.cons (AS.set sc_law.nd rfl (.inl rfl) (AE.callIo (ok__law_point T) (hr.mono (by decide)) (by rfl) T.g40 T.f40.kp (bd__law_point T) tk (pv 6) (AA.cons (AE.var (pv 8)) AA.nil)))
    (AB.cons (AS.if_ (AT.not (AT.val (AE.call (ok__law_right T) (hr.mono (by decide)) (by rfl) T.g42 T.f42.kp (bd__law_right T) .nil (fun _ _ => .nil) tk (AA.cons (AE.any (pv 6)) (AA.cons (AE.var (pv 9)) (AA.cons (AE.var (pv 12)) AA.nil)))))) (AB.one (AS.ret AE.bl)) AB.nil)
    (AB.one (AS.if_ (AT.not (AT.val (AE.call (ok__law_right T) (hr.mono (by decide)) (by rfl) T.g42 T.f42.kp (bd__law_right T) .nil (fun _ _ => .nil) tk (AA.cons (AE.any (pv 6)) (AA.cons (AE.var (pv 9)) (AA.cons (AE.callIo (ok__law_on_row T) (hr.mono (by decide)) (by rfl) T.g41 T.f41.kp (bd__law_on_row T) tk (pv 6) (AA.cons (AE.var (pv 9)) (AA.cons (AE.var (pv 12)) AA.nil))) AA.nil)))))) (AB.one (AS.ret AE.bl)) AB.nil))))))))))))
    (AB.cons (AS.set sc_law.nd rfl (.inl rfl) (AE.tup (AA.cons (AE.tup (AA.cons AE.str (AA.cons (AE.tup (AA.cons (AE.tup (AA.cons AE.int (AA.cons AE.int AA.nil))) (AA.cons (AE.tup (AA.cons AE.int (AA.cons AE.int AA.nil))) AA.nil))) AA.nil))) (AA.cons (AE.tup (AA.cons AE.str (AA.cons (AE.tup (AA.cons (AE.tup (AA.cons AE.int (AA.cons AE.int AA.nil))) (AA.cons (AE.tup (AA.cons AE.int (AA.cons AE.int AA.nil))) AA.nil))) AA.nil))) (AA.cons (AE.tup (AA.cons AE.str (AA.cons (AE.tup (AA.cons (AE.tup (AA.cons AE.int (AA.cons AE.int AA.nil))) (AA.cons (AE.tup (AA.cons AE.int (AA.cons AE.int AA.nil))) AA.nil))) AA.nil))) AA.nil)))))
    (AB.cons (AS.set sc_law.nd rfl (.inr rfl) (AE.lst (AA.cons (AE.tup (AA.cons AE.int (AA.cons AE.int AA.nil))) (AA.cons (AE.tup (AA.cons AE.int (AA.cons AE.int AA.nil))) (AA.cons (AE.tup (AA.cons AE.int (AA.cons (AE.un UA.neg AE.int) AA.nil))) (AA.cons (AE.tup (AA.cons AE.int (AA.cons (AE.un UA.neg AE.int) AA.nil))) (AA.cons (AE.tup (AA.cons (AE.un UA.neg AE.int) (AA.cons AE.int AA.nil))) AA.nil)))))))
    (AB.cons (AS.setLc (own := [("_law_one", 11)]) (t := (.sl 11)) rfl sc_law.nd rfl rfl (sw_true rfl rfl rfl (by decide +kernel)) (AI.any (AE.var (pv 2))) (blkOk_by (N := ["_law_script", "_law_at", "_law_triples", "_law_spots", "_law_told", "_law_due", "_law_bowl_here", "_law_turn", "_law_size", "_law_pack_here", "_law_again", "_law_one", "_law_spot"]) (sc := defScope s_law) (by decide +kernel)) (by decide) (fun _ _ _ _ _ => (AG.name sc_law.nd rfl (by first | exact .inl rfl | exact .inr rfl))) (fun _ _ _ _ _ => ATs.nil) (fun _ _ _ _ _ => (AE.ofN (AN.lc (own := [("_law_spot", 12)]) (t := (.sl 12)) rfl sc_law.nd (AI.any (AE.var (pv 3))) (blkOk_by (N := ["_law_script", "_law_at", "_law_triples", "_law_spots", "_law_told", "_law_due", "_law_bowl_here", "_law_turn", "_law_size", "_law_pack_here", "_law_again", "_law_one", "_law_spot"]) (by kernel_rfl)) (by decide) (fun _ _ _ _ _ => (AG.name sc_law.nd rfl (by first | exact .inl rfl | exact .inr rfl))) (fun _ _ _ _ _ => ATs.nil) (fun _ _ _ _ _ => (AE.cmp (OA.inO hu T.m_System___contains__ (ok_System___contains__ T) (hr.mono (by decide)) (bd_System___contains__ T)) (AE.var (pv 12)) (AE.make T.k_System (ok_System___init__ T) (hr.mono (by decide)) (by rfl) T.o_System (bd_System___init__ T) .nil (fun _ _ => .nil) takes0 (AA.cons (AE.tup (AA.cons (AE.var (pv 11)) AA.nil)) AA.nil)) rfl))))))
    (AB.cons (AS.set sc_law.nd rfl (.inl rfl) (AE.lst (AA.cons (AE.lst (AA.cons AE.bl (AA.cons AE.bl (AA.cons AE.bl (AA.cons AE.bl (AA.cons AE.bl AA.nil)))))) (AA.cons (AE.lst (AA.cons AE.bl (AA.cons AE.bl (AA.cons AE.bl (AA.cons AE.bl (AA.cons AE.bl AA.nil)))))) (AA.cons (AE.lst (AA.cons AE.bl (AA.cons AE.bl (AA.cons AE.bl (AA.cons AE.bl (AA.cons AE.bl AA.nil)))))) AA.nil)))))
    (AB.one (AS.ret (AE.cmp (OA.eq hu) (AE.var (pv 4)) (AE.var (pv 5)) (nomark _)))))))))
end
end K26
/-! R26: k26's plain law: signs, values that are no points. -/
namespace Pm
open PySem PySem.Spec PyProof.Rows L2 Mr
/-- the values that are not 0 -/
def figs (s : Strand) (p : List Int) : List Int := (s.rows.map fun r => dot r p).filter fun x => x != 0
theorem fsign_figs (p : List Int) : ∀ rs : List (List Int), fsign p rs = match (rs.map fun r => dot r p).filter fun x => x != 0 with
    | [] => 0
    | x :: _ => if 0 < x then 1 else -1
  | [] => rfl
  | r :: rs => by
    have ih := fsign_figs p rs
    unfold fsign
    by_cases z : dot r p = 0
    · simp [z, ih]
    · simp [z]
theorem e_figs {v0 v1 v2 v3 v5 v6 : SV} {n : Nat} {s : Strand} {p : List Int} (h : StrandOk n s) (h1 : 1 ≤ n) (h4 : n ≤ 4) (hp : ∀ x ∈ p, Sz 600 x) (f5 : v5.isFar = false) (f6 : v6.isFar = false) :
    q2__law_meets [v0, .val (rowD p), v2, v3, .val (.tup (s.rows.map rowD)), v5, v6] = .ok ((figs s p).map .int) [v0, .val (rowD p), v2, v3, .val (.tup (s.rows.map rowD)), v5, v6] := by
  have l6 := h.le
  have hq : q1__law_meets [v0, .val (rowD p), v2, v3, .val (.tup (s.rows.map rowD)), v5, v6] = .ok ((s.rows.map fun r => dot r p).map .int) [v0, .val (rowD p), v2, v3, .val (.tup (s.rows.map rowD)), v5, v6] := by
    unfold q1__law_meets
    simp
    rw [lcM_map rowD s.rows (fun r => .int (dot r p)) (by simp [f6]) (by rw [sizeLine_eq]; omega) fun r hr => by
      have ro := h.rowOk h1 h4 hr
      have e := e_amount (xs := r) (ys := p) (by have := ro.le; omega) ro.sz hp (by decide)
      simp [turnM, e1__law_meets, e, SV.far_io f6]]
    simp
  unfold q2__law_meets
  simp [-List.map_map, hq]
  rw [lcM_opt D.int (s.rows.map fun r => dot r p) (fun x => if (x != 0) = true then some (.int x) else none) (by simp [f5]) (by rw [sizeLine_eq, List.length_map]; omega) fun x hx => by
    by_cases c : x = 0 <;> simp [turnO, e2__law_meets, c, SV.far_io f5]]
  rw [opt_filter']
  simp [figs]
theorem eq_nil_ints {l : List Int} : eqD (.lst (l.map .int)) (.lst []) = .ok (.bl l.isEmpty) := by
  cases l with
  | nil => rfl
  | cons x l =>
    unfold eqD
    rw [if_pos ⟨by simp, by simp⟩]
    rfl
theorem e_law_meets {n : Nat} {s : Strand} {p : List Int} (h : StrandOk n s) (h1 : 1 ≤ n) (h4 : n ≤ 4) (hp : ∀ x ∈ p, Sz 600 x) : m__law_meets [sD s, rowD p] = .ok (.bl (met s p)) := by
  have hf := fsign_figs p s.rows
  have e := e_figs (v0 := .val (sD s)) (v1 := .un) (v2 := .un) (v3 := .val (.str s.g.s)) (v5 := .un) (v6 := .un) h h1 h4 hp rfl rfl
  have e0 := eq_nil_ints (l := figs s p)
  unfold figs at e e0
  unfold m__law_meets b__law_meets runF
  revert e e0 hf
  cases hL : (s.rows.map fun r => dot r p).filter fun x => x != 0 with
  | nil =>
    intro hf e e0
    have hf : fsign p s.rows = 0 := hf
    simp [sD] at e
    simp at e0
    cases hg : s.g with
    | more =>
      rw [hg] at e
      have a1 : neD (.str Sg.more.s) (.str (Str.ofString "more")) = .ok (.bl false) := rfl
      simp [sD, hg, e, e0, met, hf, a1, lstD_of, sizeLine_eq]
    | least =>
      rw [hg] at e
      have a1 : neD (.str Sg.least.s) (.str (Str.ofString "more")) = .ok (.bl true) := rfl
      simp [sD, hg, e, e0, met, hf, a1, lstD_of, sizeLine_eq]
    | null =>
      rw [hg] at e
      have a1 : neD (.str Sg.null.s) (.str (Str.ofString "more")) = .ok (.bl true) := rfl
      simp [sD, hg, e, e0, met, hf, a1, lstD_of, sizeLine_eq]
  | cons x l =>
    intro hf e e0
    have hf : fsign p s.rows = if 0 < x then 1 else -1 := hf
    simp only [List.map_cons, List.isEmpty_cons] at e0 e
    have hx : x ≠ 0 := by
      have : x ∈ (s.rows.map fun r => dot r p).filter fun x => x != 0 := by rw [hL]; exact List.mem_cons_self ..
      have := (List.mem_filter.mp this).2
      simpa using this
    have i0 : ixD (.lst (D.int x :: l.map .int)) (.int 0) = .ok (.int x) := ixD_lst (k := 0) rfl
    simp only [sD] at e
    cases hg : s.g with
    | more =>
      rw [hg] at e
      have a1 : neD (.str Sg.more.s) (.str (Str.ofString "null")) = .ok (.bl true) := rfl
      by_cases c : 0 < x <;> simp [sD, hg, e, e0, met, hf, a1, i0, c, lstD_of, sizeLine_eq]
    | least =>
      rw [hg] at e
      have a1 : neD (.str Sg.least.s) (.str (Str.ofString "null")) = .ok (.bl true) := rfl
      by_cases c : 0 < x <;> simp [sD, hg, e, e0, met, hf, a1, i0, c, lstD_of, sizeLine_eq]
    | null =>
      rw [hg] at e
      have a1 : neD (.str Sg.null.s) (.str (Str.ofString "null")) = .ok (.bl false) := rfl
      by_cases c : 0 < x <;> simp [sD, hg, e, e0, met, hf, a1, i0, c, lstD_of, sizeLine_eq]
/-! ### multiples, opposite points -/
theorem dot_negr (r p : List Int) : dot r (negr p) = - dot r p := by
  have e : negr p = mulR (-1) p := by
    unfold negr mulR
    exact List.map_congr_left fun x _ => by omega
  rw [e, dot_mulr]
  omega
theorem fsign_neg (p : List Int) : ∀ rs, fsign (negr p) rs = - fsign p rs
  | [] => rfl
  | r :: rs => by
    unfold fsign
    rw [dot_negr, fsign_neg p rs]
    by_cases a : dot r p = 0
    · rw [if_pos a, if_pos (by omega)]
    · rw [if_neg a, if_neg (by omega)]
      by_cases b : 0 < dot r p
      · rw [if_pos b, if_neg (by omega)]
      · rw [if_neg b, if_pos (by omega)]; rfl
theorem fsign_three (p : List Int) : ∀ rs, fsign (mulR 3 p) rs = fsign p rs
  | [] => rfl
  | r :: rs => by
    unfold fsign
    rw [dot_mulr, fsign_three p rs]
    by_cases a : dot r p = 0
    · rw [if_pos a, if_pos (by omega)]
    · rw [if_neg a, if_neg (by omega)]
      by_cases b : 0 < dot r p
      · rw [if_pos b, if_pos (by omega)]
      · rw [if_neg b, if_neg (by omega)]
theorem metAll_three {ss : List Strand} {p : List Int} : metAll ss (mulR 3 p) = metAll ss p := by
  unfold metAll met
  simp only [fsign_three]
theorem fsign_zero {p : List Int} : ∀ {rs : List (List Int)}, fsign p rs = 0 → ∀ r ∈ rs, dot r p = 0
  | [], _, _, hr => by cases hr
  | r :: rs, h, q, hq => by
    unfold fsign at h
    by_cases a : dot r p = 0
    · rw [if_pos a] at h
      rcases List.mem_cons.mp hq with e | e
      · rw [e]; exact a
      · exact fsign_zero h q e
    · rw [if_neg a] at h
      split at h <;> cases h
/-- met by a point and by its opposite one: all rows are 0 there -/
theorem met_both {s : Strand} {p : List Int} (h : met s p = true) (h' : met s (negr p) = true) : ∀ r ∈ s.rows, dot r p = 0 := by
  apply fsign_zero
  unfold met at h h'
  rw [fsign_neg] at h'
  cases hg : s.g <;> rw [hg] at h h' <;> simp at h h' <;> omega
end Pm
/-! R26b: k26's plain law: values that are no points; the right. -/
namespace Pm
open PySem PySem.Spec PyProof.Rows L2 Mr
theorem allD_bits : ∀ (l : List (D × Bool)), allD [.lst (l.map fun p => .bl p.2)] = .ok (.bl (l.all fun p => p.2)) := fun l => by
  have h : ∀ l : List (D × Bool), blsD (l.map fun p => .bl p.2) = some (l.map fun p => p.2) := fun l => by
    induction l with
    | nil => rfl
    | cons p l ih => rw [List.map_cons, blsD, ih]; rfl
  unfold allD
  simp only [h]
  simp
/-- which tuples are rows -/
theorem e_is_row' {l : List (D × Bool)} (h : ∀ p ∈ l, m_is_integer [p.1] = .ok (.bl p.2)) (hl : l.length ≤ 1000) :
    m_is_row [.tup (l.map fun p => p.1)] = .ok (.bl (decide (1 ≤ l.length) && (decide (l.length ≤ 4) && l.all fun p => p.2))) := by
  have hq : q1_is_row [.val (.tup (l.map fun p => p.1)), .un] = .ok (l.map fun p => .bl p.2) [.val (.tup (l.map fun p => p.1)), .un] := by
    unfold q1_is_row
    simp
    rw [lcM_map (fun p : D × Bool => p.1) l (fun p => .bl p.2) rfl (by rw [sizeLine_eq]; omega) fun p hp => by simp [turnM, e1_is_row, h p hp]]
    rfl
  have ha := allD_bits l
  obtain ⟨L, hL⟩ : ∃ L, L = l.map fun p => p.1 := ⟨_, rfl⟩
  have ll : L.length = l.length := by rw [hL, List.length_map]
  rw [← hL] at hq ⊢
  unfold m_is_row b_is_row runF
  by_cases a : (1 : Int) ≤ L.length
  · by_cases b : (L.length : Int) ≤ 4
    · have a' : 1 ≤ l.length := by omega
      have b' : l.length ≤ 4 := by omega
      simp [c_WIDEST, a, b, hq, ha, a', b']
    · have b' : ¬ l.length ≤ 4 := by omega
      simp [c_WIDEST, a, b, b']
  · have a' : ¬ 1 ≤ l.length := by omega
    simp [c_WIDEST, a, a']
theorem row_bits {r : List Int} (h : ∀ x ∈ r, Sz 600 x) (ps : List (D × Bool)) (hp : ∀ p ∈ ps, m_is_integer [p.1] = .ok (.bl p.2)) : ∀ p ∈ (r.map fun x => (D.int x, true)) ++ ps, m_is_integer [p.1] = .ok (.bl p.2) := fun p hm => by
  rcases List.mem_append.mp hm with hm | hm
  · obtain ⟨x, hx, rfl⟩ := List.mem_map.mp hm
    exact e_is_integer (h x hx)
  · exact hp p hm
theorem not_row {d : D} (h : isiD [d, .opq (.ty "tuple")] = .ok (.bl false)) : m_is_row [d] = .ok (.bl false) := by
  unfold m_is_row b_is_row runF
  simp [h]
theorem meets_no {n : Nat} {ss : List Strand} {d : D} (h : m_is_row [d] = .ok (.bl false)) : inO "System" m_System___contains__ d (sysD n ss) = .ok (.bl false) := by
  have e : m_meets [sysD n ss, d] = .ok (.bl false) := by
    unfold m_meets b_meets runF
    simp [h]
  have e2 : m_System___contains__ [sysD n ss, d] = .ok (.bl false) := by
    unfold m_System___contains__ b_System___contains__ runF
    simp [e]
  show (if ("System" : Str) = "System" then boolR (m_System___contains__ [sysD n ss, d]) else .stuck) = _
  rw [if_pos rfl, e2]
  rfl
theorem meets_wide {n : Nat} {ss : List Strand} {r : List Int} (h : ∀ x ∈ r, Sz 600 x) (hl : r.length ≤ 100) (hn : r.length ≠ n) : inO "System" m_System___contains__ (rowD r) (sysD n ss) = .ok (.bl false) := by
  have hr : m_is_row [rowD r] = .ok (.bl (decide (1 ≤ r.length) && decide (r.length ≤ 4))) := by
    have := e_is_row' (l := r.map fun x => (D.int x, true)) (fun p hp => by
      obtain ⟨x, hx, rfl⟩ := List.mem_map.mp hp
      exact e_is_integer (h x hx)) (by simp; omega)
    rw [List.map_map] at this
    have ht : (r.all fun _ : Int => true) = true := List.all_eq_true.mpr fun _ _ => rfl
    simpa [rowD, Function.comp_def, ht] using this
  by_cases c : (decide (1 ≤ r.length) && decide (r.length ≤ 4)) = true
  · rw [c] at hr
    have f1 : fldD ["System"] "own_width" (sysD n ss) = .ok (.int n) := rfl
    have hn' : ¬ (r.length : Int) = (n : Int) := by omega
    have e : m_meets [sysD n ss, rowD r] = .ok (.bl false) := by
      unfold m_meets b_meets runF
      simp [hr, f1, hn']
    have e2 : m_System___contains__ [sysD n ss, rowD r] = .ok (.bl false) := by
      unfold m_System___contains__ b_System___contains__ runF
      simp [e]
    show (if ("System" : Str) = "System" then boolR (m_System___contains__ [sysD n ss, rowD r]) else .stuck) = _
    rw [if_pos rfl, e2]
    rfl
  · have c : (decide (1 ≤ r.length) && decide (r.length ≤ 4)) = false := by simpa using c
    rw [c] at hr
    exact meets_no hr
theorem meets_mix {n : Nat} {ss : List Strand} {r : List Int} {d : D} (h : ∀ x ∈ r, Sz 600 x) (hl : r.length ≤ 100) (hd : m_is_integer [d] = .ok (.bl false)) : inO "System" m_System___contains__ (.tup (r.map .int ++ [d])) (sysD n ss) = .ok (.bl false) := by
  refine meets_no ?_
  have := e_is_row' (row_bits h [(d, false)] (fun p hp => by rw [List.mem_singleton.mp hp]; exact hd)) (by simp; omega)
  simpa [Function.comp_def] using this
/-- none of the odd values is in a system -/
theorem odd_none {n : Nat} {ss : List Strand} {p : List Int} (hp : ∀ x ∈ p, Sz 600 x) (ln : p.length = n) (h1 : 1 ≤ n) (h4 : n ≤ 4) :
    ∀ d ∈ [D.non, .int 0, .lst (p.map .int), rowD (p ++ [0]), rowD (p.take (p.length - 1)), .tup ((p.take (p.length - 1)).map .int ++ [.non]), .tup ((p.take (p.length - 1)).map .int ++ [.bl true]), .str (Str.ofString "x"), .dct [] [], .lst [rowD p]],
      inO "System" m_System___contains__ d (sysD n ss) = .ok (.bl false) := by
  have ht : ∀ x ∈ p.take (p.length - 1), Sz 600 x := fun x hx => hp x (List.mem_of_mem_take hx)
  have lt : (p.take (p.length - 1)).length ≤ 100 := by rw [List.length_take]; omega
  intro d hd
  simp only [List.mem_cons, List.not_mem_nil, or_false] at hd
  rcases hd with rfl | rfl | rfl | rfl | rfl | rfl | rfl | rfl | rfl | rfl
  · exact meets_no (not_row rfl)
  · exact meets_no (not_row rfl)
  · exact meets_no (not_row rfl)
  · exact meets_wide (fun x hx => (List.mem_append.mp hx).elim (hp x) fun h => by rw [List.mem_singleton.mp h]; exact Sz.of (by decide) (by decide)) (by simp; omega) (by simp; omega)
  · exact meets_wide ht lt (by rw [List.length_take]; omega)
  · exact meets_mix ht lt rfl
  · exact meets_mix ht lt rfl
  · exact meets_no (not_row rfl)
  · exact meets_no (not_row rfl)
  · exact meets_no (not_row rfl)
end Pm
/-! R26c: k26's plain law: whether a point meets a system. -/
namespace Pm
open PySem PySem.Spec PyProof.Rows L2 Mr
theorem okD_sD (s : Strand) (m : Nat) : okD (m + 3) (sD s) = true := by
  have : ∀ (k : Nat) (R : List (List Int)), okDs (k + 1) (R.map rowD) = true := fun k R => by
    induction R with
    | nil => simp
    | cons r R ih => rw [List.map_cons]; simp [ih]
  unfold sD
  simp [okD, okDs, this]
theorem eq_strands_nil {L : List Strand} : eqD (.lst (L.map sD)) (.lst []) = .ok (.bl L.isEmpty) := by
  cases L with
  | nil => rfl
  | cons r L =>
    have : ∀ (R : List Strand), okDs 11 (R.map sD) = true := fun R => by
      induction R with
      | nil => simp
      | cons r R ih => rw [List.map_cons]; simp [okDs, okD_sD _ 8, ih]
    unfold eqD
    rw [if_pos ⟨by simp [okD, okDs, okD_sD _ 8, this], by simp⟩]
    rfl
theorem filter_not {ss : List Strand} {p : List Int} : (ss.filter fun s => !met s p).isEmpty = metAll ss p := by
  unfold metAll
  induction ss with
  | nil => rfl
  | cons s ss ih =>
    rw [List.filter_cons, List.all_cons]
    cases met s p <;> simp_all
theorem e_repr_bb (a b : Bool) : ∃ z, reprD [.lst [.bl a, .bl b]] = .ok (.str z) := by
  cases a <;> cases b <;> exact ⟨_, rfl⟩
theorem ne_str (z : Str) : neD (.str z) (.str z) = .ok (.bl false) := by
  unfold neD
  rw [if_pos ⟨rfl, rfl⟩]
  simp [eqv, py, PyData.eqv]
theorem ne_bl (a : Bool) : neD (.bl a) (.bl a) = .ok (.bl false) := by cases a <;> rfl
theorem filt_s {vs : List Nat} {c : M Bool} {el : M D} {ρ : Ro} {j : Nat} (P : Strand → Bool) (ss : List Strand) (hp : plainR ρ vs = true) (hl : ss.length ≤ 100) (h : ∀ s ∈ ss, turnO vs (.sl j) c el ρ (sD s) = .ok (if P s = true then some (sD s) else none) ρ) :
    lcM vs (.sl j) c el (ss.map sD) [] ρ = .ok ((ss.filter P).map sD) ρ := by
  rw [lcM_opt sD ss (fun s => if P s = true then some (sD s) else none) hp (by rw [sizeLine_eq]; omega) h, opt_filter']
/-- the rows of a strand that are not 0 at a point -/
def offs (s : Strand) (p : List Int) : List (List Int) := s.rows.filter fun r => dot r p != 0
theorem calm_iff {ss : List Strand} {p : List Int} (h : metAll ss p = true) (h' : metAll ss (negr p) = true) : (ss.filter fun s => !(offs s p).isEmpty).isEmpty = true := by
  have key : ∀ s ∈ ss, (offs s p).isEmpty = true := fun s hs => by
    have z := met_both (List.all_eq_true.mp h s hs) (List.all_eq_true.mp h' s hs)
    unfold offs
    rw [List.isEmpty_iff, List.filter_eq_nil_iff]
    intro r hr
    simp [z r hr]
  rw [List.isEmpty_iff, List.filter_eq_nil_iff]
  intro s hs
  simp [key s hs]
theorem e_right26 {n : Nat} {ss : List Strand} {p : List Int} (h : PackOk n ss) (ln : p.length = n) (hp : ∀ x ∈ p, Sz 10 x) : m__law_right_k26 [.any, .tup (ss.map sD), rowD p] = .ok (.bl true) := by
  have h1 := h.h1
  have h4 := h.h4
  have hP : ∀ x ∈ p, Sz 600 x := fun x hx => (hp x hx).mono (by decide)
  have l12 := h.le
  have pt : PtOk n p := ⟨ln, hP⟩
  have hN : ∀ x ∈ negr p, Sz 600 x := fun x hx => by
    obtain ⟨y, hy, rfl⟩ := List.mem_map.mp hx
    have := hp y hy
    unfold Sz at *
    rw [show (0 - y).natAbs = y.natAbs by omega]
    exact Nat.lt_of_lt_of_le this (Nat.pow_le_pow_right (by decide) (by decide))
  have ptN : PtOk n (negr p) := ⟨by unfold negr; rw [List.length_map]; exact ln, hN⟩
  have ptM : PtOk n (mulR 3 p) := ⟨by rw [mulR_len]; exact ln, fun x hx => by
    have := mulR_sz (a := 2) (n := 3) (by unfold Sz; decide) hp x hx
    exact this.mono (by decide)⟩
  have h3 : Sz 2 (3 : Int) := by unfold Sz; decide
  have i1 := e_init h
  have d1 : D.obj "System" ["own_strands", "own_width"] [.tup (ss.map sD), .int n] = sysD n ss := rfl
  have e1 := e_in h pt
  have e2 := e_in h ptN
  have e3 := e_in h ptM
  rw [metAll_three] at e3
  obtain ⟨A, hA⟩ : ∃ A, A = ss.map sD := ⟨_, rfl⟩
  obtain ⟨Y, hY⟩ : ∃ Y, Y = sysD n ss := ⟨_, rfl⟩
  have q1 : q1__law_right_k26 [.val .any, .val (.tup A), .val (rowD p), .val Y, .un, .un, .un, .un, .un, .un, .un] = .ok ((ss.filter fun s => !met s p).map sD) [.val .any, .val (.tup A), .val (rowD p), .val Y, .un, .un, .un, .un, .un, .un, .un] := by
    unfold q1__law_right_k26
    rw [hA]
    simp
    rw [filt_s (fun s => !met s p) ss rfl (by omega) fun s hs => by
      have e := e_law_meets (h.ok s hs) h1 h4 hP
      cases hm : met s p <;> rw [hm] at e <;> simp [turnO, e1__law_right_k26, e]]
    rfl
  have q2 : ∀ b4 : SV, q2__law_right_k26 [.val .any, .val (.tup A), .val (rowD p), .val Y, b4, .un, .un, .un, .un, .un, .un] = .ok ((negr p).map .int) [.val .any, .val (.tup A), .val (rowD p), .val Y, b4, .un, .un, .un, .un, .un, .un] := fun b4 => by
    unfold q2__law_right_k26
    simp
    rw [lcM_map D.int p (fun x => .int (0 - x)) rfl (by rw [sizeLine_eq]; omega) fun x hx => by simp [turnM, e2__law_right_k26]]
    simp [negr]
  have q3 : ∀ b4 : SV, q3__law_right_k26 [.val .any, .val (.tup A), .val (rowD p), .val Y, b4, .val (rowD (negr p)), .un, .un, .un, .un, .un] = .ok ((ss.filter fun s => !met s (negr p)).map sD) [.val .any, .val (.tup A), .val (rowD p), .val Y, b4, .val (rowD (negr p)), .un, .un, .un, .un, .un] := fun b4 => by
    unfold q3__law_right_k26
    rw [hA]
    simp
    rw [filt_s (fun s => !met s (negr p)) ss rfl (by omega) fun s hs => by
      have e := e_law_meets (h.ok s hs) h1 h4 hN
      cases hm : met s (negr p) <;> rw [hm] at e <;> simp [turnO, e3__law_right_k26, e]]
    rfl
  have q4 : ∀ b4 b6 : SV, q4__law_right_k26 [.val .any, .val (.tup A), .val (rowD p), .val Y, b4, .val (rowD (negr p)), b6, .un, .un, .un, .un] = .ok ((mulR 3 p).map .int) [.val .any, .val (.tup A), .val (rowD p), .val Y, b4, .val (rowD (negr p)), b6, .un, .un, .un, .un] := fun b4 b6 => by
    unfold q4__law_right_k26
    simp
    rw [lcM_map D.int p (fun x => .int (3 * x)) rfl (by rw [sizeLine_eq]; omega) fun x hx => by
      simp [turnM, e4__law_right_k26, op_mulI (h3.mulOk (hp x hx) (by decide))]]
    simp [mulR]
  have q5 : ∀ b4 b6 : SV, ∀ s ∈ ss, q5__law_right_k26 [.val .any, .val (.tup A), .val (rowD p), .val Y, b4, .val (rowD (negr p)), b6, .un, .un, .val (sD s), .un] = .ok ((offs s p).map rowD) [.val .any, .val (.tup A), .val (rowD p), .val Y, b4, .val (rowD (negr p)), b6, .un, .un, .val (sD s), .un] := fun b4 b6 s hs => by
    have ok := h.ok s hs
    have l6 := ok.le
    have ix1 : ixD (sD s) (.int 1) = .ok (.tup (s.rows.map rowD)) := ixD_tup (k := 1) rfl
    unfold q5__law_right_k26
    simp [ix1]
    rw [lcM_opt rowD s.rows (fun r => if (dot r p != 0) = true then some (rowD r) else none) rfl (by rw [sizeLine_eq]; omega) fun r hr => by
      have ro := ok.rowOk h1 h4 hr
      have ea := e_amount (xs := r) (ys := p) (by have := ro.le; omega) ro.sz hP (by decide)
      by_cases c : dot r p = 0 <;> simp [turnO, e5__law_right_k26, ea, c]]
    rw [opt_filter']
    simp [offs]
  have q6 : ∀ b4 b6 : SV, q6__law_right_k26 [.val .any, .val (.tup A), .val (rowD p), .val Y, b4, .val (rowD (negr p)), b6, .un, .un, .un, .un] = .ok ((ss.filter fun s => !(offs s p).isEmpty).map sD) [.val .any, .val (.tup A), .val (rowD p), .val Y, b4, .val (rowD (negr p)), b6, .un, .un, .un, .un] := fun b4 b6 => by
    have q5' := q5 b4 b6
    unfold q6__law_right_k26
    rw [hA] at q5' ⊢
    simp
    rw [filt_s (fun s => !(offs s p).isEmpty) ss rfl (by omega) fun s hs => by
      have e := q5' s hs
      have e0 : neD (.lst ((offs s p).map rowD)) (.lst []) = .ok (.bl (!(offs s p).isEmpty)) := by
        have := eq_rows_nil (L := offs s p)
        unfold eqD at this
        unfold neD
        split at this
        · rename_i hz
          rw [if_pos hz]
          injection this with this
          injection this with this
          rw [this]
        · cases this
      cases hm : (offs s p).isEmpty <;> rw [hm] at e0 <;> simp [turnO, e6__law_right_k26, e, e0, lstD_of, sizeLine_eq]]
    rfl
  obtain ⟨OD, hOD⟩ : ∃ OD : List D, OD = [D.non, .int 0, .lst (p.map .int), rowD (p ++ [0]), rowD (p.take (p.length - 1)), .tup ((p.take (p.length - 1)).map .int ++ [.non]), .tup ((p.take (p.length - 1)).map .int ++ [.bl true]), .str (Str.ofString "x"), .dct [] [], .lst [rowD p]] := ⟨_, rfl⟩
  have od : ∀ d ∈ OD, inO "System" m_System___contains__ d Y = .ok (.bl false) := by
    rw [hOD, hY]
    exact odd_none hP ln h1 h4
  have lod : OD.length = 10 := by rw [hOD]; rfl
  have q7 : ∀ b4 b6 b7 : SV, q7__law_right_k26 [.val .any, .val (.tup A), .val (rowD p), .val Y, b4, .val (rowD (negr p)), b6, b7, .val (.lst OD), .un, .un] = .ok [] [.val .any, .val (.tup A), .val (rowD p), .val Y, b4, .val (rowD (negr p)), b6, b7, .val (.lst OD), .un, .un] := fun b4 b6 b7 => by
    unfold q7__law_right_k26
    have hm := lcM_opt (vs := [9]) (t := .sl 9) (c := tOf (m2 (inO "System" m_System___contains__) (mVar 9) (mVar 3))) (el := e7__law_right_k26) (ρ := [.val .any, .val (.tup A), .val (rowD p), .val Y, b4, .val (rowD (negr p)), b6, b7, .val (.lst OD), .un, .un]) (fun d : D => d) OD (fun _ => none) rfl (by rw [sizeLine_eq, lod]; decide) (fun d hd => by
      simp [turnO, od d hd])
    rw [List.map_id'] at hm
    have wd : walkD (.lst OD) = .ok OD := rfl
    simp [wd, hm]
  have ne : p ≠ [] := fun e => by rw [e] at ln; simp at ln; omega
  have s1 := slice_init ne
  have a1 : addD (rowD p) (.tup [.int 0]) = .ok (rowD (p ++ [0])) := by
    unfold rowD
    rw [List.map_append]
    exact if_pos (by rw [sizeLine_eq, List.length_map]; simp; omega)
  have a2 : ∀ d : D, addD (rowD (p.take (p.length - 1))) (.tup [d]) = .ok (.tup ((p.take (p.length - 1)).map .int ++ [d])) := fun d => if_pos (by rw [sizeLine_eq, List.length_map, List.length_take]; simp; omega)
  have l1 : listD [rowD p] = .ok (.lst (p.map .int)) := rfl
  have t1 : tupleD [.lst ((negr p).map .int)] = .ok (rowD (negr p)) := rfl
  have t2 : tupleD [.lst ((mulR 3 p).map .int)] = .ok (rowD (mulR 3 p)) := rfl
  obtain ⟨z, hz⟩ := e_repr_bb (metAll ss p) (metAll ss (negr p))
  have z1 := ne_str z
  have z2 := ne_bl (metAll ss p)
  have u1 := eq_strands_nil (L := ss.filter fun s => !met s p)
  have u2 := eq_strands_nil (L := ss.filter fun s => !met s (negr p))
  have u3 := eq_strands_nil (L := ss.filter fun s => !(offs s p).isEmpty)
  rw [filter_not] at u1 u2
  have ci := calm_iff (ss := ss) (p := p)
  have olst : lstD OD = .ok (.lst OD) := if_pos (by rw [sizeLine_eq, lod]; decide)
  have e00 : eqD (.lst []) (.lst []) = .ok (.bl true) := rfl
  have l2 : lstD [rowD p] = .ok (.lst [rowD p]) := if_pos (by rw [sizeLine_eq]; simp)
  obtain ⟨F1, hF1⟩ : ∃ F1, F1 = (ss.filter fun s => !met s p).map sD := ⟨_, rfl⟩
  obtain ⟨F2, hF2⟩ : ∃ F2, F2 = (ss.filter fun s => !met s (negr p)).map sD := ⟨_, rfl⟩
  obtain ⟨F3, hF3⟩ : ∃ F3, F3 = (ss.filter fun s => !(offs s p).isEmpty).map sD := ⟨_, rfl⟩
  obtain ⟨c3, hc3⟩ : ∃ c3, c3 = (ss.filter fun s => !(offs s p).isEmpty).isEmpty := ⟨_, rfl⟩
  obtain ⟨N1, hN1⟩ : ∃ N1, N1 = (negr p).map D.int := ⟨_, rfl⟩
  obtain ⟨N3, hN3⟩ : ∃ N3, N3 = (mulR 3 p).map D.int := ⟨_, rfl⟩
  simp only [← hF1, ← hF2, ← hF3, ← hc3, ← hN1, ← hN3, ← hA, ← hY] at q1 q2 q3 q4 q6 u1 u2 u3 t1 t2 i1 d1 e1 e2 e3 ci
  have rr : runF 11 b__law_right_k26 [.any, .tup A, rowD p] = .ok (.bl true) := by
    unfold runF b__law_right_k26
    cases ha : metAll ss p <;> cases hb : metAll ss (negr p) <;> rw [ha] at u1 e1 e3 z2 hz ci <;> rw [hb] at u2 e2 hz ci <;> simp at ci <;>
      simp [-op_tupleL, -List.map_take, ← hOD, ci, mMake, i1, d1, q1, u1, q2, t1, q3, u2, e1, e2, hz, z1, q4, t2, e3, z2, q6, u3, lstD_of, sizeLine_eq, tupD_of, a1, a2, s1, l1, l2, olst, q7, e00]
  rw [← hA]
  exact rr
end Pm
/-! R26d: k26's plain law, whole. -/
namespace Pm
open PySem PySem.Spec PyProof.Rows L2 Mr
structure Pt26 (n : Nat) (p : List Int) : Prop where
  len : p.length = n
  sz : ∀ x ∈ p, Sz 10 x
theorem sz10 {x : Int} (h : -5 ≤ x ∧ x ≤ 5) : Sz 10 x := by unfold Sz; omega
theorem point_core {xs zs L : List D} {ks : List Int} {n : Int} (rn : range1D [.int n] = .ok L)
    (e : lcM [2] (.sl 2) tYesM e1__law_point L [] [.own true xs, .val (.int n), .un] = .ok (ks.map .int) [.own true zs, .val (.int n), .un]) : m__law_point (.own true xs) [.int n] = .ok (rowD ks) (.own true zs) := by
  unfold m__law_point b__law_point q1__law_point runI
  simp [rn, e, rowD]
theorem e_point {xs : List D} {b n : Nat} (h : Bowl b xs) (hn : n ≤ 4) (hb : b < 800000) : ∃ (p : List Int) (ys : List D), m__law_point (.own true xs) [.int n] = .ok (rowD p) (.own true ys) ∧ Pt26 n p ∧ Bowl (b + 4) ys := by
  obtain ⟨l, zs, e, hl, hp, hz⟩ := draw_list (vs := [2]) (t := .sl 2) (el := e1__law_point) (rest := [.val (.int n), .un]) (P := fun y => ∃ k, y = .int k ∧ (-5 ≤ k ∧ k ≤ 5)) (cost := 1) ((List.range n).map fun (k : Nat) => D.int k) xs b h (fun _ => rfl) (by simp; omega)
    (fun d hd zs b' hb' hz => by
      rw [List.length_map, List.length_range] at hb'
      obtain ⟨d2, ys, hd2, e, hy⟩ := e_pickL (ds := [.int 0, .int 0, .int 1, .int (-1), .int 2, .int (-2), .int 3, .int 5]) hz (by simp) (by simp) (by omega)
      have hk : ∃ k, d2 = .int k ∧ (-5 ≤ k ∧ k ≤ 5) := by
        simp only [List.mem_cons, List.not_mem_nil, or_false] at hd2
        rcases hd2 with e | e | e | e | e | e | e | e <;> exact ⟨_, e, by decide⟩
      exact ⟨d2, ys, by simp [turnM, e1__law_point, lstD_of, sizeLine_eq, e], hk, hy⟩)
  obtain ⟨ks, rfl, hk⟩ := ints_of hp
  rw [List.length_map, List.length_map, List.length_range] at hl
  rw [List.length_map, List.length_range] at hz
  exact ⟨ks, zs, point_core (rangeN n (by omega)) e, ⟨hl, fun x hx => sz10 (hk x hx)⟩, hz.mono (by omega)⟩
/-- the places at which a row is not 0 -/
theorem places_of {r : List Int} (hl : r.length ≤ 100) : ∃ l : List Nat, (∀ i ∈ l, i < r.length) ∧ ∀ {r0 r1 r2 v5 v7 : SV}, q1__law_on_row [r0, r1, r2, .val (rowD r), .un, v5, .un, v7, .un] = .ok (l.map fun (i : Nat) => .int i) [r0, r1, r2, .val (rowD r), .un, v5, .un, v7, .un] := by
  have hF : ∀ d ∈ enumL (r.map D.int), ∃ i x, i < r.length ∧ d = .tup [.int (i : Nat), .int x] := fun d hd => by
    obtain ⟨i, x, hx, rfl⟩ := mem_enum hd
    rw [List.getElem?_map] at hx
    obtain ⟨y, hy, rfl⟩ := Option.map_eq_some_iff.mp hx
    exact ⟨i, y, (List.getElem?_eq_some_iff.mp hy).1, rfl⟩
  let F : D → Option D := fun d => match d with
    | .tup [.int i, .int x] => if x = 0 then none else some (.int i)
    | _ => none
  obtain ⟨l, hl2, hl3⟩ := map_of (g := fun (i : Nat) => D.int i) (p := fun i => i < r.length) (ys := (enumL (r.map D.int)).filterMap F) (fun y hy => by
    obtain ⟨d, hd, e⟩ := List.mem_filterMap.mp hy
    obtain ⟨i, x, hi, rfl⟩ := hF d hd
    have e : (if x = 0 then none else some (D.int (i : Nat))) = some y := e
    split at e
    · cases e
    · cases e; exact ⟨i, rfl, hi⟩)
  refine ⟨l, hl3, fun {r0 r1 r2 v5 v7} => ?_⟩
  have hm := lcM_opt (vs := [8, 6]) (t := .tp [.sl 8, .sl 6]) (c := tOf (m2 neD (mVar 6) (mC (.int 0)))) (el := e1__law_on_row) (ρ := [r0, r1, r2, .val (rowD r), .un, v5, .un, v7, .un]) (fun d : D => d) (enumL (r.map D.int)) F rfl (by unfold enumL; rw [sizeLine_eq]; simp; omega) (fun d hd => by
    obtain ⟨i, x, hi, rfl⟩ := hF d hd
    by_cases c : x = 0 <;> simp [turnO, e1__law_on_row, F, c])
  rw [List.map_id', hl2] at hm
  have en : enumD [rowD r] = .ok (enumL (r.map D.int)) := rfl
  unfold q1__law_on_row
  obtain ⟨E, hE⟩ : ∃ E, E = enumL (r.map D.int) := ⟨_, rfl⟩
  rw [← hE] at hm en
  simp [en, hm]
theorem set_ints {l : List Int} {i : Nat} {x : Int} : (l.map D.int).set i (.int x) = (l.set i x).map D.int := by rw [List.map_set]
theorem e_on_row {xs : List D} {b n : Nat} {ss : List Strand} {p : List Int} (h : Bowl b xs) (hs : PackOk n ss) (hd : ∀ s ∈ ss, Drawn n 2 3 s) (hp : Pt26 n p) (hb : b < 800000) :
    ∃ (q : List Int) (ys : List D), m__law_on_row (.own true xs) [.tup (ss.map sD), rowD p] = .ok (rowD q) (.own true ys) ∧ Pt26 n q ∧ Bowl (b + 2) ys := by
  have h4 := hs.h4
  obtain ⟨d, x1, m1, e1, b1⟩ := e_pickT (ds := ss.map sD) h (by simpa using hs.ne) (by rw [List.length_map]; have := hs.le; omega) (by omega)
  obtain ⟨s, ms, rfl⟩ := List.mem_map.mp m1
  have ok := hs.ok s ms
  obtain ⟨d2, x2, m2, e2, b2⟩ := e_pickT (ds := s.rows.map rowD) b1 (by simpa using ok.ne) (by rw [List.length_map]; have := ok.le; omega) (by omega)
  obtain ⟨r, mr, rfl⟩ := List.mem_map.mp m2
  obtain ⟨lr, sr⟩ := (hd s ms).row r mr
  have ix1 : ixD (sD s) (.int 1) = .ok (.tup (s.rows.map rowD)) := ixD_tup (k := 1) rfl
  obtain ⟨l, hl, q⟩ := places_of (r := r) (by omega)
  obtain ⟨A, hA⟩ : ∃ A, A = ss.map sD := ⟨_, rfl⟩
  obtain ⟨B, hB⟩ : ∃ B, B = s.rows.map rowD := ⟨_, rfl⟩
  rw [← hA] at e1 ⊢
  rw [← hB] at e2 ix1
  have q := @q (.own true x2) (.val (.tup A)) (.val (rowD p)) .un .un
  by_cases c : l.length < 2
  · refine ⟨p, x2, ?_, hp, b2⟩
    have c' : (l.length : Int) < 2 := by omega
    unfold m__law_on_row b__law_on_row runI
    simp [e1, ix1, e2, q, c']
  · have c' : ¬ (l.length : Int) < 2 := by omega
    obtain ⟨i, j, hi, hj, g0, g1⟩ : ∃ i j, i ∈ l ∧ j ∈ l ∧ l[0]? = some i ∧ l[l.length - 1]? = some j := by
      have k0 : 0 < l.length := by omega
      have k1 : l.length - 1 < l.length := by omega
      exact ⟨l[0], l[l.length - 1], List.getElem_mem _, List.getElem_mem _, List.getElem?_eq_getElem k0, List.getElem?_eq_getElem k1⟩
    have bi := hl i hi
    have bj := hl j hj
    have a0 : ixD (.lst (l.map fun (i : Nat) => D.int i)) (.int 0) = .ok (.int i) := ixD_lst (k := 0) (by simp [g0])
    have a1 : ixD (.lst (l.map fun (i : Nat) => D.int i)) (.int (-1)) = .ok (.int j) := by
      show (match atI (l.map fun (i : Nat) => D.int i) (-1) with | some d => FR.ok d | none => .stuck) = _
      have : atI (l.map fun (i : Nat) => D.int i) (-1) = some (.int j) := by
        unfold atI
        rw [List.length_map, show ixN l.length (-1) = some (l.length - 1) by unfold ixN; simp; omega]
        simp [g1]
      rw [this]
    obtain ⟨y, hy⟩ : ∃ y, r[j]? = some y := ⟨_, List.getElem?_eq_getElem bj⟩
    obtain ⟨x, hx⟩ : ∃ x, r[i]? = some x := ⟨_, List.getElem?_eq_getElem bi⟩
    have a2 : ixD (rowD r) (.int j) = .ok (.int y) := ixD_row hy
    have a3 : ixD (rowD r) (.int i) = .ok (.int x) := ixD_row hx
    have mz : mulN (.lst [.int 0]) (.int (p.length : Nat)) = .ok ((List.replicate n (0 : Int)).map .int) := by
      rw [hp.len]
      show (if I63 (n : Int) ∧ [D.int 0].length * (n : Int).toNat ≤ sizeLine then FR.ok (List.replicate (n : Int).toNat [D.int 0]).flatten else .stuck) = _
      rw [if_pos ⟨⟨by omega, by omega⟩, by rw [sizeLine_eq]; simp; omega⟩, Int.toNat_natCast, zero_row, List.map_replicate]
    have n1 : ixN ((List.replicate n (0 : Int)).map D.int).length (i : Int) = some i := by
      rw [List.length_map, List.length_replicate]; unfold ixN; rw [if_pos (by omega), if_pos (by omega)]; simp
    have n2 : ixN (((List.replicate n (0 : Int)).set i (0 - y)).map D.int).length (j : Int) = some j := by
      rw [List.length_map, List.length_set, List.length_replicate]; unfold ixN; rw [if_pos (by omega), if_pos (by omega)]; simp
    have by' := sr y (List.mem_of_getElem? hy)
    have bx' := sr x (List.mem_of_getElem? hx)
    refine ⟨((List.replicate n (0 : Int)).set i (0 - y)).set j x, x2, ?_, ⟨by simp, fun z hz => ?_⟩, b2⟩
    · have st1 : ∀ ρ : Ro, putIx 5 (.int (0 - y)) (mVar 6) [.own true x2, .val (.tup A), .val (rowD p), .val (rowD r), .val (.lst (l.map fun (i : Nat) => D.int i)), .own false ((List.replicate n (0 : Int)).map D.int), .val (.int i), .val (.int j), .un] = .ok () [.own true x2, .val (.tup A), .val (rowD p), .val (rowD r), .val (.lst (l.map fun (i : Nat) => D.int i)), .own false (((List.replicate n (0 : Int)).set i (0 - y)).map D.int), .val (.int i), .val (.int j), .un] := fun _ => by
        unfold putIx
        simp only [List.length_map, List.length_replicate] at n1
        simp [n1, ← set_ints]
      have st2 : ∀ ρ : Ro, putIx 5 (.int x) (mVar 7) [.own true x2, .val (.tup A), .val (rowD p), .val (rowD r), .val (.lst (l.map fun (i : Nat) => D.int i)), .own false (((List.replicate n (0 : Int)).set i (0 - y)).map D.int), .val (.int i), .val (.int j), .un] = .ok () [.own true x2, .val (.tup A), .val (rowD p), .val (rowD r), .val (.lst (l.map fun (i : Nat) => D.int i)), .own false ((((List.replicate n (0 : Int)).set i (0 - y)).set j x).map D.int), .val (.int i), .val (.int j), .un] := fun _ => by
        unfold putIx
        simp only [List.length_map, List.length_set, List.length_replicate] at n2
        simp [n2, ← set_ints]
      have st1 := st1 []
      have st2 := st2 []
      obtain ⟨I, hI⟩ : ∃ I, I = l.map fun (i : Nat) => D.int i := ⟨_, rfl⟩
      have lI : I.length = l.length := by rw [hI, List.length_map]
      obtain ⟨Z0, hZ0⟩ : ∃ Z, Z = (List.replicate n (0 : Int)).map D.int := ⟨_, rfl⟩
      obtain ⟨Z1, hZ1⟩ : ∃ Z, Z = ((List.replicate n (0 : Int)).set i (0 - y)).map D.int := ⟨_, rfl⟩
      obtain ⟨Z2, hZ2⟩ : ∃ Z, Z = (((List.replicate n (0 : Int)).set i (0 - y)).set j x).map D.int := ⟨_, rfl⟩
      have tz : tupleD [.lst Z2] = .ok (rowD (((List.replicate n (0 : Int)).set i (0 - y)).set j x)) := by rw [hZ2]; rfl
      have c2 : ¬ (I.length : Int) < 2 := by omega
      have t2 : tupD [.int (0 - y), .int x] = .ok (.tup [.int (0 - y), .int x]) := rfl
      have l0 : lstD [.int 0] = .ok (.lst [.int 0]) := rfl
      rw [← hI] at q a0 a1
      rw [← hI, ← hZ0, ← hZ1] at st1
      rw [← hI, ← hZ1, ← hZ2] at st2
      rw [← hZ0] at mz
      unfold m__law_on_row b__law_on_row runI
      simp [-op_tupleL, -Int.zero_sub, e1, ix1, e2, q, c2, a0, a1, l0, mz, a2, a3, t2, xPar2, st1, st2, tz]
    · have hz1 : z = x ∨ z ∈ (List.replicate n (0 : Int)).set i (0 - y) := by
        rcases List.mem_or_eq_of_mem_set hz with h | h
        · exact .inr h
        · exact .inl h
      rcases hz1 with rfl | hz1
      · exact sz10 (by omega)
      · rcases List.mem_or_eq_of_mem_set hz1 with h | h
        · rw [List.eq_of_mem_replicate h]; exact sz10 (by decide)
        · rw [h]; exact sz10 (by omega)
end Pm
/-! R26e: k26's plain law: the loops, the written systems. -/
namespace Pm
open PySem PySem.Spec PyProof.Rows L2 Mr
theorem turn26 {r0 r1 v7 v10 v12 : SV} {n : Nat} {ss : List Strand} {xs : List D} {b : Nat} (h : Bowl b xs) (hs : PackOk n ss) (hd : ∀ s ∈ ss, Drawn n 2 3 s) (hb : b < 700000) (h10 : v10.isIo = false) (h12 : v12.isFar = false) (d : D) :
    ∃ ys w, turnF (.sl 10) y1_law_k26 [r0, r1, .un, .un, .un, .un, .own false xs, v7, .val (.int n), .val (.tup (ss.map sD)), v10, .un, v12] d = .ok .nx [r0, r1, .un, .un, .un, .un, .own false ys, v7, .val (.int n), .val (.tup (ss.map sD)), .val d, .un, w] ∧ w.isFar = false ∧ Bowl (b + 10) ys := by
  obtain ⟨p, x1, e1, pp, b1⟩ := e_point h hs.h4 (by omega)
  obtain ⟨q, x2, e2, pq, b2⟩ := e_on_row b1 hs hd pp (by omega)
  have r1 := e_right26 hs pp.len pp.sz
  have r2 := e_right26 hs pq.len pq.sz
  refine ⟨x2, .val (rowD p), ?_, rfl, b2.mono (by omega)⟩
  obtain ⟨A, hA⟩ : ∃ A, A = ss.map sD := ⟨_, rfl⟩
  rw [← hA] at e2 r1 r2 ⊢
  simp [turnF, y1_law_k26, h10, SV.far_io h12, mAny, e1, e2, r1, r2]
theorem loop26 {r0 r1 v7 v12 : SV} {n : Nat} {ss : List Strand} {xs : List D} {b : Nat} {v10 : SV} (h : Bowl b xs) (hs : PackOk n ss) (hd : ∀ s ∈ ss, Drawn n 2 3 s) (hb : b < 600000) (h10 : v10.isIo = false) (h12 : v12.isFar = false) :
    ∃ ys w10 w12, f1_law_k26 [r0, r1, .un, .un, .un, .un, .own false xs, v7, .val (.int n), .val (.tup (ss.map sD)), v10, .un, v12] = .ok .nx [r0, r1, .un, .un, .un, .un, .own false ys, v7, .val (.int n), .val (.tup (ss.map sD)), w10, .un, w12] ∧ SV.isIo w10 = false ∧ SV.isFar w12 = false ∧ Bowl (b + 120) ys := by
  obtain ⟨ρ', f, ys, w10, w12, rfl, g10, g12, hy⟩ := forM_range (t := .sl 10) (body := y1_law_k26)
    (I := fun i ρ => ∃ ys w10 w12, ρ = [r0, r1, .un, .un, .un, .un, .own false ys, v7, .val (.int n), .val (.tup (ss.map sD)), w10, .un, w12] ∧ SV.isIo w10 = false ∧ SV.isFar w12 = false ∧ Bowl (b + 10 * i) ys) 12 _ ⟨xs, v10, v12, rfl, h10, h12, by simpa using h⟩ (fun i ρ hi hI => by
      obtain ⟨ys, w10, w12, rfl, g10, g12, hy⟩ := hI
      obtain ⟨zs, u, e, gu, hz⟩ := turn26 (r0 := r0) (r1 := r1) (v7 := v7) hy hs hd (by omega) g10 g12 (.int i)
      exact ⟨_, e, zs, _, u, rfl, rfl, gu, hz.mono (by omega)⟩)
  refine ⟨ys, w10, w12, ?_, g10, g12, hy.mono (by omega)⟩
  have rn : range1D [.int 12] = .ok ((List.range 12).map fun (k : Nat) => D.int k) := rangeN 12 (by decide)
  obtain ⟨L, hL⟩ : ∃ L, L = (List.range 12).map fun (k : Nat) => D.int k := ⟨_, rfl⟩
  rw [← hL] at f rn
  unfold f1_law_k26
  simp [rn, f]
theorem body26 {r0 r1 v7 v8 v9 v10 v12 : SV} {xs : List D} {b : Nat} (h : Bowl b xs) (hb : b < 500000) (h7 : v7.isIo = false) (h8 : v8.isIo = false) (h9 : v9.isIo = false) (h10 : v10.isIo = false) (h12 : v12.isFar = false) (d : D) :
    ∃ ys w8 w9 w10 w12, turnF (.sl 7) y2_law_k26 [r0, r1, .un, .un, .un, .un, .own false xs, v7, v8, v9, v10, .un, v12] d = .ok .nx [r0, r1, .un, .un, .un, .un, .own false ys, .val d, w8, w9, w10, .un, w12] ∧ SV.isIo w8 = false ∧ SV.isIo w9 = false ∧ SV.isIo w10 = false ∧ SV.isFar w12 = false ∧ Bowl (b + 1000) ys := by
  obtain ⟨j, x1, e1, j3, b1⟩ := e_bit h (m := 4) (by decide) (by decide) (by omega)
  obtain ⟨n, hn⟩ : ∃ n, n = 1 + j := ⟨_, rfl⟩
  have hn' : 1 + (j : Int) = (n : Int) := by omega
  obtain ⟨ss, x2, e2, nes, ls, ds, b2⟩ := e_pack (n := n) (m := 6) b1 (by omega) (by omega) (by decide) (by decide) (by omega)
  have e2 : m__law_pack (.own true x1) [.int n, .int 6] = .ok (.tup (ss.map sD)) (.own true x2) := e2
  have ps := packOk (n := n) (by omega) (by omega) nes (by omega) ds
  obtain ⟨ys, w10, w12, f, g10, g12, b3⟩ := loop26 (r0 := r0) (r1 := r1) (v7 := .val d) (v10 := v10) (v12 := v12) b2 ps ds (by omega) h10 h12
  obtain ⟨A, hA⟩ : ∃ A, A = ss.map sD := ⟨_, rfl⟩
  rw [← hA] at e2 f
  refine ⟨ys, .val (.int n), .val (.tup A), w10, w12, ?_, rfl, rfl, g10, g12, b3.mono (by omega)⟩
  simp [turnF, y2_law_k26, h7, h8, h9, e1, hn', e2, f]
/-- what the slots hold behind a cell -/
def far26 (ρ : Ro) (ns : List Int) : Prop := ∃ v1 v6 v7 v8 v9 v10 v12, ρ = [SV.val (.frz (ns.map .int)), v1, .un, .un, .un, .un, v6, v7, v8, v9, v10, .un, v12] ∧ SV.isIo v1 = false ∧ SV.isIo v6 = false ∧ SV.isIo v7 = false ∧ SV.isIo v8 = false ∧ SV.isIo v9 = false ∧ SV.isIo v10 = false ∧ SV.isFar v12 = false
theorem cell26 {ns : List Int} {k : Nat} {ρ : Ro} (hk : k < 64) (h : far26 ρ ns) : ∃ ρ', turnF (.sl 1) y3_law_k26 ρ (.int k) = .ok .nx ρ' ∧ far26 ρ' ns := by
  obtain ⟨v1, v6, v7, v8, v9, v10, v12, rfl, h1, h6, h7, h8, h9, h10, h12⟩ := h
  obtain ⟨xs, e, hB⟩ := e_bowl (ns := ns) hk
  obtain ⟨ρ', f, zs, u7, u8, u9, u10, u12, rfl, g7, g8, g9, g10, g12, hz⟩ := forM_range (t := .sl 7) (body := y2_law_k26)
    (I := fun j ρ => ∃ zs u7 u8 u9 u10 u12, ρ = [SV.val (.frz (ns.map .int)), .val (.int k), .un, .un, .un, .un, .own false zs, u7, u8, u9, u10, .un, u12] ∧ SV.isIo u7 = false ∧ SV.isIo u8 = false ∧ SV.isIo u9 = false ∧ SV.isIo u10 = false ∧ SV.isFar u12 = false ∧ Bowl (1000 * j) zs) 3
    [SV.val (.frz (ns.map .int)), .val (.int k), .un, .un, .un, .un, .own false xs, v7, v8, v9, v10, .un, v12] ⟨xs, v7, v8, v9, v10, v12, rfl, h7, h8, h9, h10, h12, hB⟩ (fun j ρ hj hI => by
      obtain ⟨zs, u7, u8, u9, u10, u12, rfl, g7, g8, g9, g10, g12, hz⟩ := hI
      obtain ⟨ys, w8, w9, w10, w12, e, k8, k9, k10, k12, hy⟩ := body26 (r0 := .val (.frz (ns.map .int))) (r1 := .val (.int k)) hz (by omega) g7 g8 g9 g10 g12 (.int j)
      exact ⟨_, e, ys, _, w8, w9, w10, w12, rfl, rfl, k8, k9, k10, k12, hy.mono (by omega)⟩)
  have rn : range1D [.int 3] = .ok ((List.range 3).map fun (k : Nat) => D.int k) := rangeN 3 (by decide)
  obtain ⟨L, hL⟩ : ∃ L, L = (List.range 3).map fun (k : Nat) => D.int k := ⟨_, rfl⟩
  rw [← hL] at f rn
  refine ⟨_, ?_, .val (.int k), .own false zs, u7, u8, u9, u10, u12, rfl, rfl, rfl, g7, g8, g9, g10, g12⟩
  simp only [turnF, y3_law_k26, f2_law_k26, ap_putS, ap_Seq, ap_xOwn, ap_For]
  simp [h1, h6, e, rn, f]
/-! ### the written systems -/
def str26 : List Strand := [⟨.more, [[1, 0], [0, 1]]⟩, ⟨.least, [[1, 0], [0, 1]]⟩, ⟨.null, [[1, 0], [0, 1]]⟩]
def pts26 : List (List Int) := [[0, 0], [0, 1], [1, -5], [0, -1], [-1, 9]]
theorem str26_ok : ∀ s ∈ str26, PackOk 2 [s] := fun s hs => by
  have key : ∀ s ∈ str26, StrandOk 2 s := by
    intro s hs
    unfold str26 at hs
    simp only [List.mem_cons, List.not_mem_nil, or_false] at hs
    have hr : ∀ r ∈ ([[1, 0], [0, 1]] : List (List Int)), r.length = 2 ∧ ∀ x ∈ r, -99999999999999999999 ≤ x ∧ x ≤ 99999999999999999999 := by decide
    rcases hs with rfl | rfl | rfl <;> exact ⟨by simp, by simp, hr⟩
  exact ⟨by decide, by decide, by simp, by simp, fun t ht => by rw [List.mem_singleton.mp ht]; exact key s hs⟩
theorem pts26_ok : ∀ p ∈ pts26, PtOk 2 p := fun p hp => by
  have key : ∀ p ∈ pts26, p.length = 2 ∧ ∀ x ∈ p, x.natAbs < 16 := by decide
  exact ⟨(key p hp).1, fun x hx => Nat.lt_of_lt_of_le ((key p hp).2 x hx) (by decide)⟩
theorem e_told26 {r0 v1 v4 v5 v6 v7 v8 v9 v10 v12 : SV} (h12 : v12.isFar = false) : q2_law_k26 [r0, v1, .val (.tup (str26.map sD)), .val (.lst (pts26.map rowD)), v4, v5, v6, v7, v8, v9, v10, .un, v12] =
    .ok (str26.map fun s => .lst (pts26.map fun p => .bl (met s p))) [r0, v1, .val (.tup (str26.map sD)), .val (.lst (pts26.map rowD)), v4, v5, v6, v7, v8, v9, v10, .un, v12] := by
  have q : ∀ s ∈ str26, q1_law_k26 [r0, v1, .val (.tup (str26.map sD)), .val (.lst (pts26.map rowD)), v4, v5, v6, v7, v8, v9, v10, .val (sD s), v12] = .ok (pts26.map fun p => .bl (met s p)) [r0, v1, .val (.tup (str26.map sD)), .val (.lst (pts26.map rowD)), v4, v5, v6, v7, v8, v9, v10, .val (sD s), v12] := fun s hs => by
    have ok := str26_ok s hs
    have i1 := e_init ok
    have d1 : D.obj "System" ["own_strands", "own_width"] [.tup ([s].map sD), .int 2] = sysD 2 [s] := rfl
    have t1 : tupD [sD s] = .ok (.tup ([s].map sD)) := rfl
    have wd : walkD (.lst (pts26.map rowD)) = .ok (pts26.map rowD) := rfl
    obtain ⟨A, hA⟩ : ∃ A, A = str26.map sD := ⟨_, rfl⟩
    obtain ⟨B, hB⟩ : ∃ B, B = D.lst (pts26.map rowD) := ⟨_, rfl⟩
    obtain ⟨C, hC⟩ : ∃ C, C = [s].map sD := ⟨_, rfl⟩
    obtain ⟨Y, hY⟩ : ∃ Y, Y = sysD 2 [s] := ⟨_, rfl⟩
    rw [← hA, ← hB]
    rw [← hB] at wd
    rw [← hC] at i1 t1
    rw [← hC, ← hY] at d1
    unfold q1_law_k26
    simp [wd]
    rw [lcM_map rowD pts26 (fun p => .bl (met s p)) (by simp [h12]) (by rw [sizeLine_eq]; decide) fun p hp => by
      have e := e_in ok (pts26_ok p hp)
      rw [← hY] at e
      have em : metAll [s] p = met s p := by unfold metAll; simp
      rw [em] at e
      simp [turnM, e1_law_k26, SV.far_io h12, t1, mMake, i1, d1, e]]
    rfl
  have wd : walkD (.tup (str26.map sD)) = .ok (str26.map sD) := rfl
  unfold q2_law_k26
  obtain ⟨T, hT⟩ : ∃ T, T = D.tup (str26.map sD) := ⟨_, rfl⟩
  obtain ⟨B, hB⟩ : ∃ B, B = D.lst (pts26.map rowD) := ⟨_, rfl⟩
  rw [← hT] at q wd ⊢
  rw [← hB] at q ⊢
  simp [wd]
  rw [lcM_map sD str26 (fun s => .lst (pts26.map fun p => .bl (met s p))) rfl (by rw [sizeLine_eq]; decide) fun s hs => by
    have e := q s hs
    simp [turnM, e2_law_k26, e]]
  rfl
theorem plain26 (ns : List Int) (hl : ns.length ≤ 63) : m_law_k26 [.frz (ns.map .int)] = .ok (.bl true) := by
  obtain ⟨N, hN, N8⟩ := rounds_of ns.length 8 (by decide)
  obtain ⟨ρ', f, v1, v6, v7, v8, v9, v10, v12, rfl, h1, h6, h7, h8, h9, h10, h12⟩ := forM_range (t := .sl 1) (body := y3_law_k26)
    (I := fun _ ρ => far26 ρ ns) N [.val (.frz (ns.map .int)), .un, .un, .un, .un, .un, .un, .un, .un, .un, .un, .un, .un] ⟨_, _, _, _, _, _, _, rfl, rfl, rfl, rfl, rfl, rfl, rfl, rfl⟩ (fun k ρ hk hI => cell26 (by omega) hI)
  have rn := rangeN N (by omega)
  obtain ⟨L, hL⟩ : ∃ L, L = (List.range N).map fun (k : Nat) => D.int k := ⟨_, rfl⟩
  rw [← hL] at f rn
  simp at hN
  have t := @e_told26 (.val (.frz (ns.map .int))) v1 .un .un v6 v7 v8 v9 v10 v12 h12
  have T1 : (D.tup [.tup [.str (Str.ofString "more"), .tup [.tup [.int 1, .int 0], .tup [.int 0, .int 1]]], .tup [.str (Str.ofString "least"), .tup [.tup [.int 1, .int 0], .tup [.int 0, .int 1]]], .tup [.str (Str.ofString "null"), .tup [.tup [.int 1, .int 0], .tup [.int 0, .int 1]]]]) = .tup (str26.map sD) := rfl
  have T2 : (D.lst [.tup [.int 0, .int 0], .tup [.int 0, .int 1], .tup [.int 1, .int (-5)], .tup [.int 0, .int (-1)], .tup [.int (-1), .int 9]]) = .lst (pts26.map rowD) := rfl
  have T3 : eqD (.lst (str26.map fun s => .lst (pts26.map fun p => .bl (met s p)))) (.lst [.lst [.bl false, .bl true, .bl true, .bl false, .bl false], .lst [.bl true, .bl true, .bl true, .bl false, .bl false], .lst [.bl true, .bl false, .bl false, .bl false, .bl false]]) = .ok (.bl true) := by kernel_rfl
  obtain ⟨U, hU⟩ : ∃ U, U = D.tup (str26.map sD) := ⟨_, rfl⟩
  obtain ⟨V, hV⟩ : ∃ V, V = D.lst (pts26.map rowD) := ⟨_, rfl⟩
  obtain ⟨R, hR⟩ : ∃ R : List D, R = str26.map fun s => .lst (pts26.map fun p => .bl (met s p)) := ⟨_, rfl⟩
  rw [← hU] at T1
  rw [← hV] at T2
  rw [← hU, ← hV, ← hR] at t
  rw [← hR] at T3
  unfold m_law_k26 b_law_k26 f3_law_k26 runF
  simp [hN, rn, f, tupD_of, lstD_of, sizeLine_eq, T1, T2, t, T3]
end Pm
namespace K26
open PySem PySem.Spec PyProof.Rows L2 Mr Pm
/-! the head -/
def fn : List DefM := [
  ⟨glA "_law_bowl", "_law_bowl", "_law_bowl", defArgs (topS 30), defBody (topS 30), defScope (topS 30), []⟩,
  ⟨glA "_law_bit", "_law_bit", "_law_bit", defArgs (topS 31), defBody (topS 31), defScope (topS 31), []⟩,
  ⟨glA "_law_pick", "_law_pick", "_law_pick", defArgs (topS 32), defBody (topS 32), defScope (topS 32), []⟩,
  ⟨glA "_law_small", "_law_small", "_law_small", defArgs (topS 34), defBody (topS 34), defScope (topS 34), []⟩,
  ⟨glA "_law_line", "_law_line", "_law_line", defArgs (topS 35), defBody (topS 35), defScope (topS 35), []⟩,
  ⟨glA "_law_strand", "_law_strand", "_law_strand", defArgs (topS 36), defBody (topS 36), defScope (topS 36), []⟩,
  ⟨glA "_law_dealt", "_law_dealt", "_law_dealt", defArgs (topS 33), defBody (topS 33), defScope (topS 33), []⟩,
  ⟨glA "_law_pack", "_law_pack", "_law_pack", defArgs (topS 37), defBody (topS 37), defScope (topS 37), []⟩,
  ⟨glA "is_integer", "is_integer", "is_integer", defArgs (topS 4), defBody (topS 4), defScope (topS 4), []⟩,
  ⟨glA "is_row", "is_row", "is_row", defArgs (topS 6), defBody (topS 6), defScope (topS 6), []⟩,
  ⟨glA "value_by", "value_by", "value_by", defArgs (topS 13), defBody (topS 13), defScope (topS 13), []⟩,
  ⟨glA "first_sign", "first_sign", "first_sign", defArgs (topS 22), defBody (topS 22), defScope (topS 22), []⟩,
  ⟨glA "is_met", "is_met", "is_met", defArgs (topS 23), defBody (topS 23), defScope (topS 23), []⟩,
  ⟨glA "meets", "meets", "meets", defArgs (topS 28), defBody (topS 28), defScope (topS 28), []⟩,
  ⟨meA "System" "__contains__", "__contains__", "System.__contains__", defArgs (inCls (topS 26) 8), defBody (inCls (topS 26) 8), defScope (inCls (topS 26) 8), []⟩,
  ⟨glA "_law_point", "_law_point", "_law_point", defArgs (topS 40), defBody (topS 40), defScope (topS 40), []⟩,
  ⟨glA "is_row_within", "is_row_within", "is_row_within", defArgs (topS 7), defBody (topS 7), defScope (topS 7), []⟩,
  ⟨glA "is_strand_of", "is_strand_of", "is_strand_of", defArgs (topS 24), defBody (topS 24), defScope (topS 24), []⟩,
  ⟨glA "are_strands", "are_strands", "are_strands", defArgs (topS 25), defBody (topS 25), defScope (topS 25), []⟩,
  ⟨meA "System" "__init__", "__init__", "System.__init__", defArgs (inCls (topS 26) 0), defBody (inCls (topS 26) 0), defScope (inCls (topS 26) 0), []⟩,
  ⟨glA "_law_amount", "_law_amount", "_law_amount", defArgs (topS 38), defBody (topS 38), defScope (topS 38), []⟩,
  ⟨glA "_law_meets", "_law_meets", "_law_meets", defArgs (topS 39), defBody (topS 39), defScope (topS 39), []⟩,
  ⟨glA "_law_right", "_law_right", "_law_right", defArgs (topS 42), defBody (topS 42), defScope (topS 42), []⟩,
  ⟨glA "_law_on_row", "_law_on_row", "_law_on_row", defArgs (topS 41), defBody (topS 41), defScope (topS 41), []⟩,
  ⟨glA "law", "law", "law", defArgs (topS 43), defBody (topS 43), defScope (topS 43), []⟩]
def fa : List He.Fa := [.glo "_law_bowl", .glo "_law_bit", .glo "_law_pick", .glo "_law_small", .glo "_law_line", .glo "_law_strand", .glo "_law_dealt", .glo "_law_pack", .glo "is_integer", .glo "is_row", .glo "value_by", .glo "first_sign", .glo "is_met", .glo "meets", .meth "System" "__contains__", .glo "_law_point", .glo "is_row_within", .glo "is_strand_of", .glo "are_strands", .mkr "System", .glo "_law_amount", .glo "_law_meets", .glo "_law_right", .glo "_law_on_row", .glo "law", .glo "InvalidSystem", .glo "System", .exc "InvalidSystem", .cls "System", .noat "System" "own_strands", .noat "System" "own_width", .int "GREATEST" c_GREATEST, .str "LEAST" c_LEAST, .int "MAX_ROWS" c_MAX_ROWS, .int "MAX_SIZE" c_MAX_SIZE, .int "MAX_STRANDS" c_MAX_STRANDS, .int "MAX_WIDTH" c_MAX_WIDTH, .str "MORE" c_MORE, .str "NULL" c_NULL, .int "WIDEST" c_WIDEST, .free "abs", .free "all", .free "any", .free "bool", .free "enumerate", .free "int", .free "isinstance", .free "len", .free "list", .free "max", .free "min", .free "range", .free "repr", .free "str", .free "sum", .free "tuple", .free "zip"]
def tb : List (PySem.W.Frag → Bool) := []
def loose0 : List Str := ["_wall", "WIDEST", "GREATEST", "is_integer", "is_integer_within", "is_row", "is_row_within", "LoopError", "InvalidSystem", "InvalidNumber", "value_by", "MAX_WIDTH", "MAX_STRANDS", "MAX_ROWS", "MAX_SIZE", "MORE", "LEAST", "NULL", "first_sign", "is_met"]
def loose1 : List Str := ["is_strand_of", "are_strands", "System", "require_index", "meets", "_law_bowl", "_law_bit", "_law_pick", "_law_dealt", "_law_small", "_law_line", "_law_strand", "_law_pack", "_law_amount", "_law_meets", "_law_point", "_law_on_row", "_law_right"]
def loose : List Str := loose0 ++ loose1
def wd : WdL := []
abbrev RR : PySem.W.OpenRow := PySem.W.OpenLaw.row PySem.Challenge.rw_staystarts_k26_whole_points_that_meet
abbrev hk : PySem.W.Hook := hookM 6 fa tb fn ls wd
def ob (s : PySem.W.SharedT) : AlX := obsMG 6 fa tb fn ls wd (HandSHeadRun.getT s)
theorem ob_eq (s : PySem.W.SharedT) : ob s = hk.obs s.abs := obsMG_eq (HandSHeadRun.getT_eq s)
theorem run (w : World) : HandSHeadRun.RunEq RR (PySem.W.view RR.prog [43]) hk ob 8000 loose w := by
  intro os
  kernel_rfl
theorem tx {w : World} {K : PySem.W.Frag} {h : Heap} {mg : Str → Option Value} (X : K.In h) (G : h.Ns mainGlobals mg) (c : SaysM fa tb fn K) (lb : lamB ls K = true) (D : WdAt wd w K) : ∃ T : Tx w K mg, T.a43 = He.ga K "law" := by
  obtain ⟨fd30, F30⟩ := c.def_ 0 rfl
  obtain ⟨fd31, F31⟩ := c.def_ 1 rfl
  obtain ⟨fd32, F32⟩ := c.def_ 2 rfl
  obtain ⟨fd34, F34⟩ := c.def_ 3 rfl
  obtain ⟨fd35, F35⟩ := c.def_ 4 rfl
  obtain ⟨fd36, F36⟩ := c.def_ 5 rfl
  obtain ⟨fd33, F33⟩ := c.def_ 6 rfl
  obtain ⟨fd37, F37⟩ := c.def_ 7 rfl
  obtain ⟨fd4, F4⟩ := c.def_ 8 rfl
  obtain ⟨fd6, F6⟩ := c.def_ 9 rfl
  obtain ⟨fd13, F13⟩ := c.def_ 10 rfl
  obtain ⟨fd22, F22⟩ := c.def_ 11 rfl
  obtain ⟨fd23, F23⟩ := c.def_ 12 rfl
  obtain ⟨fd28, F28⟩ := c.def_ 13 rfl
  obtain ⟨fd26_8, F26_8⟩ := c.def_ 14 rfl
  obtain ⟨fd40, F40⟩ := c.def_ 15 rfl
  obtain ⟨fd7, F7⟩ := c.def_ 16 rfl
  obtain ⟨fd24, F24⟩ := c.def_ 17 rfl
  obtain ⟨fd25, F25⟩ := c.def_ 18 rfl
  obtain ⟨fd26_0, F26_0⟩ := c.def_ 19 rfl
  obtain ⟨fd38, F38⟩ := c.def_ 20 rfl
  obtain ⟨fd39, F39⟩ := c.def_ 21 rfl
  obtain ⟨fd42, F42⟩ := c.def_ 22 rfl
  obtain ⟨fd41, F41⟩ := c.def_ 23 rfl
  obtain ⟨fd43, F43⟩ := c.def_ 24 rfl
  obtain ⟨t3, C3⟩ := He.int_ok X G (c.fact 31 rfl)
  obtain ⟨t20, C20⟩ := He.str_ok X G (c.fact 32 rfl)
  obtain ⟨t17, C17⟩ := He.int_ok X G (c.fact 33 rfl)
  obtain ⟨t18, C18⟩ := He.int_ok X G (c.fact 34 rfl)
  obtain ⟨t16, C16⟩ := He.int_ok X G (c.fact 35 rfl)
  obtain ⟨t15, C15⟩ := He.int_ok X G (c.fact 36 rfl)
  obtain ⟨t19, C19⟩ := He.str_ok X G (c.fact 37 rfl)
  obtain ⟨t21, C21⟩ := He.str_ok X G (c.fact 38 rfl)
  obtain ⟨t2, C2⟩ := He.int_ok X G (c.fact 39 rfl)
  exact ⟨⟨_, fd30, F30,
    He.glo_ok X G (c.fact 0 rfl),
    _, fd31, F31,
    He.glo_ok X G (c.fact 1 rfl),
    _, fd32, F32,
    He.glo_ok X G (c.fact 2 rfl),
    _, fd34, F34,
    He.glo_ok X G (c.fact 3 rfl),
    _, fd35, F35,
    He.glo_ok X G (c.fact 4 rfl),
    _, fd36, F36,
    He.glo_ok X G (c.fact 5 rfl),
    _, fd33, F33,
    He.glo_ok X G (c.fact 6 rfl),
    _, fd37, F37,
    He.glo_ok X G (c.fact 7 rfl),
    _, fd4, F4,
    He.glo_ok X G (c.fact 8 rfl),
    _, fd6, F6,
    He.glo_ok X G (c.fact 9 rfl),
    _, fd13, F13,
    He.glo_ok X G (c.fact 10 rfl),
    _, fd22, F22,
    He.glo_ok X G (c.fact 11 rfl),
    _, fd23, F23,
    He.glo_ok X G (c.fact 12 rfl),
    _, fd28, F28,
    He.glo_ok X G (c.fact 13 rfl),
    _, fd26_8, F26_8,
    He.meth_ok (c.fact 14 rfl),
    _, fd40, F40,
    He.glo_ok X G (c.fact 15 rfl),
    _, fd7, F7,
    He.glo_ok X G (c.fact 16 rfl),
    _, fd24, F24,
    He.glo_ok X G (c.fact 17 rfl),
    _, fd25, F25,
    He.glo_ok X G (c.fact 18 rfl),
    _, fd26_0, F26_0,
    He.mkr_ok (c.fact 19 rfl),
    _, fd38, F38,
    He.glo_ok X G (c.fact 20 rfl),
    _, fd39, F39,
    He.glo_ok X G (c.fact 21 rfl),
    _, fd42, F42,
    He.glo_ok X G (c.fact 22 rfl),
    _, fd41, F41,
    He.glo_ok X G (c.fact 23 rfl),
    _, fd43, F43,
    He.glo_ok X G (c.fact 24 rfl),
    He.glo_ok X G (c.fact 25 rfl),
    He.glo_ok X G (c.fact 26 rfl),
    exc_of (c.fact 27 rfl),
    ⟨He.cls_ok (c.fact 28 rfl), by simp only [List.forall_mem_cons, List.not_mem_nil, false_implies, implies_true, and_true]; exact He.noat_ok (c.fact 29 rfl)⟩,
    ⟨He.cls_ok (c.fact 28 rfl), by simp only [List.forall_mem_cons, List.not_mem_nil, false_implies, implies_true, and_true]; exact He.noat_ok (c.fact 30 rfl)⟩,
    t3, C3,
    t20, C20,
    t17, C17,
    t18, C18,
    t16, C16,
    t15, C15,
    t19, C19,
    t21, C21,
    t2, C2,
    He.free_ok X G (c.fact 40 rfl),
    He.free_ok X G (c.fact 41 rfl),
    He.free_ok X G (c.fact 42 rfl),
    He.free_ok X G (c.fact 43 rfl),
    He.free_ok X G (c.fact 44 rfl),
    He.free_ok X G (c.fact 45 rfl),
    He.free_ok X G (c.fact 46 rfl),
    He.free_ok X G (c.fact 47 rfl),
    He.free_ok X G (c.fact 48 rfl),
    He.free_ok X G (c.fact 49 rfl),
    He.free_ok X G (c.fact 50 rfl),
    He.free_ok X G (c.fact 51 rfl),
    He.free_ok X G (c.fact 52 rfl),
    He.free_ok X G (c.fact 53 rfl),
    He.free_ok X G (c.fact 54 rfl),
    He.free_ok X G (c.fact 55 rfl),
    He.free_ok X G (c.fact 56 rfl)⟩, rfl⟩
section
open HandSHeadRun PySem.W
abbrev QQ : Program := PySem.W.view RR.prog [43]
abbrev dd : DefRec := HandSHeadRun.topDef RR.prog 43
theorem b1 : (!RR.writes || RR.records.isEmpty) = true := by rfl
theorem b2 : RR.prog.bare := ⟨rfl, rfl, rfl, rfl, rfl, by decide +kernel⟩
theorem b4 : opening RR.prog = plainProg RR.prog.main.scope.names := by kernel_rfl
theorem b5 : ∀ s, fenceModules? RR.prog s = some s := fun s => by kernel_rfl
theorem b6 : defOf QQ RR.name = some (dd, []) := by kernel_rfl
theorem b7 : RR.prog.theDef RR.name = some (dd.params, dd.body, dd.scope) := by kernel_rfl
theorem b8 : kwWritten? dd.params.kwonlyargs dd.params.kw_defaults = some [] := by kernel_rfl
theorem b9 : RR.wellSaid = true := by first | assumption | decide +kernel
theorem b10 : (chainsOk QQ && opensWell RR.prog && (frees RR.toRowW && RR.within.isEmpty)) = true := by decide +kernel
theorem b11 : dd.name = ("law" : PySem.Str) := by kernel_rfl
theorem b12 : dd.params.defaults = [] := by kernel_rfl
end
theorem holds (hm : ∀ ns : List Int, ns.length ≤ 63 → (∀ z ∈ ns, Builtin.Int.intBits z ≤ 1048576) → m_law_k26 [.frz (ns.map .int)] = .ok (.bl true)) : PySem.Challenge.rw_staystarts_k26_whole_points_that_meet.Holds := by
  w_on; o_law
  refine HandSHeadRun.head_any (r := RR) (q := QQ) (H := hk) (ob := ob) (M := 8000) (loose := loose) (d := dd) (kwd := []) ob_eq b4 b5 run b6 b7 b8 b1 b9 b10 b2 ?hw ?hc
  case hw => w_witness2
  case hc =>
    refine walk_endM (l := PySem.Challenge.rw_staystarts_k26_whole_points_that_meet) (n := 63) (k := 9) (x := "_law_script") (m := m_law_k26) (fun _ => rfl) rfl (by decide) b12 ⟨⟨rfl, by decide, by decide⟩, rfl⟩ (fun w K mg h f X G c lb D hmg0 => ?_) hm
    have hmg : mg ("law" : PySem.Str) = some (.ref f) := by
      rw [← b11]
      exact hmg0
    obtain ⟨T, hT⟩ := tx (w := w) X G c lb D
    have e : T.a43 = f := by
      have e1 := T.g43.symm.trans hmg
      cases e1
      rfl
    subst e
    have b := FunD.bindsA (ps := ["_law_script"]) T.f43 fun _ _ _ _ _ _ us hl => match us, hl with | [_], _ => rfl
    exact ⟨_, fun s v => b s [v] rfl, fun base => ok_law T⟩
end K26
open PySem PySem.W PySem.Calls PyProof.Rows
theorem PySem.Challenge.cw_staystarts_k26_whole_points_that_meet_holds : PySem.Challenge.rw_staystarts_k26_whole_points_that_meet.Holds := by
  exact K26.holds fun ns hl _ => Pm.plain26 ns hl
