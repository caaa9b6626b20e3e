import PyProof.Rows.All
import Wide.All
import OpenK.AllK
import Wide.FinOn
import HandS.ForMost
import HandS.ForExc
import HandS.Wide
import HandS.WideMore
import HandS.Zip
import HandS.Defaults
import HandS.HeadHook1
import HandS.Lambda
import HandS.IsInst
import HandS.WideBits
import HandS.TupMul
import KE.DataEq
import HandS.TupAny
import PyProof.FString5
import PyProof.Rows.RuleB_pow
import HandS.NoneIn
import HandS.Head0
import HandS.Head1
import HandS.Head2
import HandS.HeadEnd
import HandS.HeadHook2
import HandS.EndBits
import HandS.NestedK
import KE.KStateDown
import HandS.Property
import KE.GoesEnum
import HandS.Star
import HandS.DictComp
import PyProof.CallFns
import PyProof.ReprText
import PyProof.ReprRoads
import HandS.Strs
import HandS.HeadHook3
import HandS.Style
import PyProof.ExcBaseAll.ValueError
import KE.GoesZip
import HandS.Conv
import HandS.TryMany
import HandS.ExcField
import PyProof.InstNe
import PyProof.CallStr
import PyProof.Rows.Range3
import PyProof.MeetsIn
import HandS.FStr
import HandS.SortKw
import HandS.Iter
import KE.KExcSuper
import KE.KExcPX
import KE.KSuper
import HandS.ExcValue
import PyProof.Rows.FactsExc_KeyError
import HandS.ListItems
import HandS.ExcOwn
import KE.GoesMore
import PyProof.MeetsSeq2
import KE.KStar
import PyProof.FString
import HandS.OwnEq
import HandS.DictEq
import HandS.DeepEq
import HandS.AnyAll
import HandS.IterVal
import HandS.SetFor
import HandS.SortRule
import PyProof.ReprLoop
import PyProof.Rows.RegStrFacts
import PyProof.StrLawsRepr
import KE.DataCmp
import PySem.Challenge.RW_staystarts_k11_whole_edits_of_loops
set_option Elab.async false
set_option linter.all false
set_option maxRecDepth 100000
set_option maxHeartbeats 4000000
set_option exponentiation.threshold 9000
namespace K11
open PySem PySem.Spec PyProof.Rows L2
abbrev RR : PySem.W.OpenRow := PySem.W.OpenLaw.row PySem.Challenge.rw_staystarts_k11_whole_edits_of_loops
abbrev PP : Program := PySem.W.OpenLaw.prog PySem.Challenge.rw_staystarts_k11_whole_edits_of_loops
section
open HandSHeadRun PySem.W
abbrev QQ : Program := PySem.W.view RR.prog [53]
abbrev dd : DefRec := HandSHeadRun.topDef RR.prog 53
theorem b1 : (!RR.writes || RR.records.isEmpty) = true := by rfl
theorem b2 : RR.prog.bare := ⟨rfl, rfl, rfl, rfl, rfl, by decide +kernel⟩
theorem b4 : opening RR.prog = plainProg RR.prog.main.scope.names := by kernel_rfl
theorem b5 : ∀ s, fenceModules? RR.prog s = some s := fun s => by kernel_rfl
theorem b6 : defOf QQ RR.name = some (dd, []) := by kernel_rfl
theorem b7 : RR.prog.theDef RR.name = some (dd.params, dd.body, dd.scope) := by kernel_rfl
theorem b8 : kwWritten? dd.params.kwonlyargs dd.params.kw_defaults = some [] := by kernel_rfl
theorem b9 : RR.wellSaid = true := by first | assumption | decide +kernel
theorem b10 : (chainsOk QQ && opensWell RR.prog && (frees RR.toRowW && RR.within.isEmpty)) = true := by decide +kernel
theorem b11 : dd.name = ("law" : PySem.Str) := by kernel_rfl
theorem b12 : dd.params.defaults = [] := by kernel_rfl
end
end K11
namespace Mr
open PySem PySem.Spec PyProof.Rows L2
/-- room, and nothing whose text is being made -/
structure RoomG (k : Nat) (A : Around) : Prop where
  r : Room k A
  g : A.guards = some []
section
variable {k j : Nat} {A : Around}
theorem RoomG.mono (q : RoomG k A) (h : j ≤ k) : RoomG j A := ⟨q.r.mono h, q.g⟩
theorem RoomG.units (q : RoomG k A) : A.units + 64 < cLine := q.r.units
theorem guards_deeper {env : Env} : (A.deeper env).guards = A.guards := by
  cases A; rfl
theorem guards_make {C : Addr} {us : List Value} {kw : List (Str × Value)} : (A.under (.builtin "type.__call__" ⟨.ref C :: us, kw⟩)).guards = A.guards := by
  cases A with
  | mk a b c d e => cases d <;> first | rfl | simp [Around.under]
theorem RoomG.deeper (q : RoomG (k + 1) A) (env : Env) : RoomG k (A.deeper env) := ⟨q.r.deeper env, guards_deeper.trans q.g⟩
theorem RoomG.make (q : RoomG (k + 1) A) (C : Addr) (us : List Value) (kw : List (Str × Value)) : RoomG k (A.under (.builtin "type.__call__" ⟨.ref C :: us, kw⟩)) := ⟨q.r.make C us kw, guards_make.trans q.g⟩
end
/-- the promise of the def at f -/
structure FnG (P : Program) (w : World) (K : PySem.W.Frag) (mg : Str → Option Value) (base : Heap) (k : Nat) (f : Addr) (fd : FuncData) (ps : List Str) (sp : Sp) : Prop where
  len : ∀ vs H Q E, sp vs H Q E → vs.length = ps.length
  run : ∀ (A : Around) (fr : List Env) (s : Shared) (H : Hp) (gv : Args) (us : List Value) (vs : List V) (Q : VK) (E : XK), RoomG k A → Env0 P w K mg base A fr s H → BindsTo s fd gv (ps.zip us) → Vals vs us → sp vs H Q E →
    codeAny (model P w) A (.call (.ref f) gv) (CR (L2.CX P w) fr P w H s Q E) s
section
variable {P : Program} {w : World} {K : PySem.W.Frag} {mg : Str → Option Value} {base : Heap}
theorem FnG.mono {j k : Nat} {f : Addr} {fd : FuncData} {ps : List Str} {sp : Sp} (F : FnG P w K mg base j f fd ps sp) (h : j ≤ k) : FnG P w K mg base k f fd ps sp :=
  ⟨F.len, fun A fr s H gv us vs Q E q => F.run A fr s H gv us vs Q E (q.mono h)⟩
/-- the code object of the def at f -/
def codV (K : PySem.W.Frag) (f : Addr) : Value := match K.lookup f with
  | some ⟨_, _, .func fd, _⟩ => fd.code
  | _ => .none
/-- a def's promise of its body's -/
theorem fng_of {x qual : Str} {params : Arguments} {body : List Stmt} {scope : Scope} {dvs : List V} {kws : List (Str × V)} {f : Addr} {fd : FuncData} {N ps : List Str} {k : Nat} {sp : Sp} (F : FunD K x qual params body scope dvs kws f fd) (S : FnScope N ps scope)
    (len : ∀ vs H Q E, sp vs H Q E → vs.length = ps.length)
    (hb : ∀ (cdv : Value) (_ : codV K f = cdv) (A : Around) (fr : List Env) (s : Shared) (H : Hp) (vs : List V) (Q : VK) (E : XK), RoomG k (A.deeper (envOfC qual scope s.heap.objs.size f cdv)) → sp vs H Q E →
      ∃ t, PSs (cxOf (L2.CX P w) P w K mg base N qual scope f cdv A fr s H E) body t ∧ t { nx := fun _ H' => Q .non H', rt := Q } (L2.start N vs) H) : FnG P w K mg base (k + 1) f fd ps sp := by
  obtain ⟨oc, od, dV, kV, doc, pm, an, cdv, ct, osl, rfl, at_f, code_f, _, _⟩ := F.ex
  refine ⟨len, fun A fr s H gv us vs Q E room e0 bind rel hs => ?_⟩
  have hl := len _ _ _ _ hs
  have inK : K.In s.heap := e0.mod.kin.keeps fun b o e => (e0.bs b o e).1
  have nl : s.heap.NoLimit := e0.mod.nolimit.keeps fun b o e => (e0.bs b o e).1
  have kinds : ∀ y ∈ ps.zip us, scope.names.lookup y.1 = some .local ∨ (scope.names.lookup y.1 = some .cell ∧ ((cellsFrom (s.heap.objs.size + 1) scope.names []).lookup y.1).isSome = true) := by
    rintro ⟨n, v⟩ hy
    cases S.par n (List.of_mem_zip hy).1 with
    | inl q => exact .inl q
    | inr q => exact .inr ⟨q, PySem.W.cellsFrom_some _ _ _ (.inl q)⟩
  refine codeAny_call_function room.r.depth (inK _ _ at_f) rfl S.co S.gen rfl (PySem.W.codeRec_of inK code_f) (bind _ _ _ _ (wpAny_newFunctionEnv_cells S.kind kinds fun env he s1 x => ?_))
  subst he
  refine ⟨nl.keeps x.toInCall.keep, codeAny_func ?_⟩
  obtain ⟨t, ht, q⟩ := hb cdv (by unfold codV; rw [at_f]) A fr s H vs Q E (room.deeper _) hs
  have I1 : Inv (cxOf (L2.CX P w) P w K mg base N qual scope f cdv A fr s H E) [] (L2.start N vs) H s1 := inv_start S room.r.hd e0 hl rel x
  refine wpAny_mono (ht.run [] s1 (L2.start N vs) H _ I1 q) (fun fl s2 h2 => ?_) fun _ _ h => h
  cases fl with
  | ret u =>
    obtain ⟨v, _, H', J, rv, z⟩ := h2
    exact ⟨v, H', J.os, J.bare, J.base, J.hok, rv, z⟩
  | next =>
    obtain ⟨_, H', J, z⟩ := h2
    exact ⟨V.non, H', J.os, J.bare, J.base, J.hok, rfl, z⟩
  | brk => exact h2.choose_spec.choose_spec.2.elim
  | cont => exact h2.choose_spec.choose_spec.2.elim
end
/-- the callee runs -/
theorem run_fnG {X : Cx} {k : Nat} {f : Addr} {fd : FuncData} {ps : List Str} {sp : Sp} {dvs : List V} {ds : List Value} {E : XK} {pins : List (Addr × Obj)} {σ : L2.St} {H : Hp} {s : Shared} {Q : VK} {us : List Value} {vs : List V}
    (F : FnG X.prog X.w X.K X.mg X.base k f fd ps sp) (room : RoomG k X.A) (bind : Binds X.K fd ps ds) (dfl : Vals dvs ds) (pass : Passes (L2.CX X.prog X.w) X E)
    (I : Inv X pins σ H s) (r : Vals vs us) (h : sp (vs ++ dvs) H Q E) : wpAny (model X.prog X.w) X.A (call (.ref f) us) (EP X pins σ Q) X.xe s := by
  have rr := r.append dfl
  have hl : (us ++ ds).length = ps.length := rr.length.symm.trans (F.len _ _ _ _ h)
  refine wpAny_call (codeAny_mono (F.run X.A X.stack s H ⟨us, []⟩ _ _ Q E room I.env0 (bind s us I.kIn hl) rr h) fun r s2 q => ?_)
  match r, q with
  | .error e, q => exact pass pins σ H s e s2 I q
  | .ok (.ret u), q => exact I.after q
  | .ok .next, q => exact False.elim q
  | .ok .brk, q => exact False.elim q
  | .ok .cont, q => exact False.elim q
end Mr
namespace Mr
open PySem PySem.Spec PyProof.Rows L2

abbrev St := L2.St
/-- the tables of code objects that lambdas are made with, and what the lambdas are called -/
class Lam where
  T : PySem.W.Frag → List (Addr × Str)
/-- slots whose values the context knows -/
class Pins where
  pv : List (Nat × V)
  pf : Hp
instance (priority := low) pins0 : Pins := ⟨[], fun _ => none⟩
def isTb : HO → Bool
  | .tbl _ => true
  | _ => false
def isX : HO → Bool
  | .tbl _ => true
  | .ext _ => true
  | _ => false
theorem isX_tb {o : HO} (h : isX o = false) : isTb o = false := by
  cases o <;> first | rfl | cases h
/-- nothing is tracked at a, or a table, a code object -/
def Nn (H : Hp) (a : Addr) : Prop := ∀ o, H a = some o → isX o = true
theorem Nn.of {H : Hp} {a : Addr} (h : H a = none) : Nn H a := fun o e => by rw [h] at e; cases e
theorem Nn.no {H : Hp} {a : Addr} {o : HO} (h : Nn H a) (e : H a = some o) (n : isX o = false) : False := by
  have := h o e
  rw [n] at this; cases this
abbrev Ftb (F : Hp) : Prop := ∀ a o, F a = some o → isTb o = false
theorem Ftb.upd {F : Hp} (h : Ftb F) {p : Addr} {o : HO} (ho : isTb o = false) : Ftb (upd F p o) := fun a u e => by
  by_cases z : a = p
  · subst z; rw [upd_same] at e; cases e; exact ho
  · rw [upd_ne z] at e; exact h a u e
/-- what stood in H stands in H' -/
def Sm (H H' : Hp) : Prop := ∀ b o, H b = some o → H' b = some o
inductive D where
  | non
  | bl (b : Bool)
  | int (i : Int)
  | str (x : Str)
  | tup (xs : List D)
  | lst (xs : List D)
  | frz (xs : List D)
  | obj (c : Str) (ns : List Str) (ds : List D)
  | dct (ks : List Key) (ds : List D)
  | opq (v : V)
  | any
instance : Inhabited D := ⟨.non⟩

mutual
inductive Rep (K : PySem.W.Frag) (H : Hp) : V → D → Prop where
  | non : Rep K H .non .non
  | bl (b : Bool) : Rep K H (.bl b) (.bl b)
  | int (i : Int) : Rep K H (.int i) (.int i)
  | str (x : Str) : Rep K H (.str x) (.str x)
  | tup {a : Addr} {xs : List V} {ds : List D} : SqT K H a xs → Reps K H xs ds → Rep K H (.ref a) (.tup ds)
  | lst {a : Addr} {xs : List V} {ds : List D} : H a = some (.lst xs) → Reps K H xs ds → Rep K H (.ref a) (.lst ds)
  | frz {a : Addr} {xs : List V} {ds : List D} : SqL K H a xs → Reps K H xs ds → Rep K H (.ref a) (.frz ds)
  | obj {a dx : Addr} {c : Str} {ns : List Str} {vs : List V} {fs : List (Str × V)} {ds : List D} : H a = some (.ins (He.ga K c) dx fs) → fs = ns.zip vs → ns.length = vs.length → Reps K H vs ds → Rep K H (.ref a) (.obj c ns ds)
  | dct {a : Addr} {ks : List Key} {vs : List V} {ds : List D} : H a = some (.dK (ks.zip vs)) → ks.length = vs.length → Reps K H vs ds → Rep K H (.ref a) (.dct ks ds)
  | opq (v : V) : Rep K H v (.opq v)
  | any (v : V) (h : v ≠ .non) : Rep K H v .any
inductive Reps (K : PySem.W.Frag) (H : Hp) : List V → List D → Prop where
  | nil : Reps K H [] []
  | cons {v : V} {vs : List V} {d : D} {ds : List D} : Rep K H v d → Reps K H vs ds → Reps K H (v :: vs) (d :: ds)
end

theorem Sm.refl {H : Hp} : Sm H H := fun _ _ h => h
theorem Sm.tr {H H' H'' : Hp} (a : Sm H H') (b : Sm H' H'') : Sm H H'' := fun x o h => b x o (a x o h)
theorem Sm.updN {H : Hp} {p : Addr} {o : HO} (h : H p = none) : Sm H (upd H p o) := fun b x e => by
  rw [upd_ne (ne_of_none e h)]; exact e
variable [Lam]
/-- what stood stands, tables apart -/
structure SmT (K : PySem.W.Frag) (H H' : Hp) : Prop where
  k : ∀ b o, H b = some o → isTb o = false → H' b = some o
  t : LamX.Tabs (Lam.T K) H → LamX.Tabs (Lam.T K) H'
theorem Sm.t {K : PySem.W.Frag} {H H' : Hp} (h : Sm H H') : SmT K H H' := ⟨fun b o e _ => h b o e, fun x => x.ext h⟩
theorem SmT.tr {K : PySem.W.Frag} {H H' H'' : Hp} (a : SmT K H H') (b : SmT K H' H'') : SmT K H H'' := ⟨fun x o h n => b.k x o (a.k x o h n) n, fun x => b.t (a.t x)⟩
/-- .. and what is at a -/
structure SmA (K : PySem.W.Frag) (a : Addr) (H H' : Hp) : Prop where
  k : ∀ b o, b ≠ a → H b = some o → isTb o = false → H' b = some o
  t : LamX.Tabs (Lam.T K) H → LamX.Tabs (Lam.T K) H'
theorem tabs_upd {H : Hp} {T : List (Addr × Str)} {a : Addr} {u o : HO} (h : LamX.Tabs T H) (ha : ∀ v, H a = some v → isX v = false) : LamX.Tabs T (upd H a o) := fun p hp => by
  obtain ⟨ps, e1, e2, e3⟩ := h p hp
  have n1 : p.1 ≠ a := fun z => by
    have := ha _ (z ▸ e1)
    cases this
  refine ⟨ps, by rw [upd_ne n1]; exact e1, e2, fun pos cv hc => ?_⟩
  obtain ⟨c, f1, f2⟩ := e3 pos cv hc
  have n2 : c ≠ a := fun z => by
    have := ha _ (z ▸ f2)
    unfold LamX.CodeO at this
    cases this
  exact ⟨c, f1, by rw [upd_ne n2]; exact f2⟩
theorem SmA.upd {K : PySem.W.Frag} {a : Addr} {H : Hp} {u o : HO} (ha : H a = some u) (hu : isX u = false) : SmA K a H (upd H a o) :=
  ⟨fun b w ne h _ => by rw [upd_ne ne]; exact h, fun x => tabs_upd (u := u) x fun v e => by rw [ha] at e; cases e; exact hu⟩
theorem Sm.none {F H : Hp} (s : Sm F H) {p : Addr} (h : H p = none) : F p = none := by
  cases e : F p with
  | none => rfl
  | some o => rw [s p o e] at h; cases h
theorem Rd.mono {H H' : Hp} {a : Addr} {u : HO} (s : Sm H H') (r : Rd H a u) : Rd H' a u := by
  rcases r with r | ⟨o, r⟩
  · exact .inl (s _ _ r)
  · exact .inr ⟨o, s _ _ r⟩
theorem SqLm {K : PySem.W.Frag} {H H' : Hp} {a : Addr} {xs : List V} (s : Sm H H') (r : SqL K H a xs) : SqL K H' a xs := by
  rcases r with r | r
  · exact .inl (Rd.mono s r)
  · exact .inr r
theorem SqTm {K : PySem.W.Frag} {H H' : Hp} {a : Addr} {xs : List V} (s : Sm H H') (r : SqT K H a xs) : SqT K H' a xs := by
  rcases r with r | r
  · exact .inl (Rd.mono s r)
  · exact .inr r
mutual
theorem Rep.mono {K : PySem.W.Frag} {H H' : Hp} (s : Sm H H') : ∀ {v : V} {d : D}, Rep K H v d → Rep K H' v d
  | _, _, .non => .non
  | _, _, .bl b => .bl b
  | _, _, .int i => .int i
  | _, _, .str x => .str x
  | _, _, .tup h r => .tup (SqTm s h) (Reps.mono s r)
  | _, _, .lst h r => .lst (s _ _ h) (Reps.mono s r)
  | _, _, .frz h r => .frz (SqLm s h) (Reps.mono s r)
  | _, _, .obj h e l r => .obj (s _ _ h) e l (Reps.mono s r)
  | _, _, .dct h l r => .dct (s _ _ h) l (Reps.mono s r)
  | _, _, .opq v => .opq v
  | _, _, .any v h => .any v h
theorem Reps.mono {K : PySem.W.Frag} {H H' : Hp} (s : Sm H H') : ∀ {vs : List V} {ds : List D}, Reps K H vs ds → Reps K H' vs ds
  | _, _, .nil => .nil
  | _, _, .cons h r => .cons (Rep.mono s h) (Reps.mono s r)
end
section
variable {K : PySem.W.Frag} {H : Hp}
theorem Reps.length : ∀ {vs : List V} {ds : List D}, Reps K H vs ds → vs.length = ds.length
  | _, _, .nil => rfl
  | _, _, .cons _ r => by simp [Reps.length r]
theorem Reps.get : ∀ {vs : List V} {ds : List D} (i : Nat) {d : D}, Reps K H vs ds → ds[i]? = some d → ∃ v, vs[i]? = some v ∧ Rep K H v d
  | _, _, _, _, .nil, e => by simp at e
  | _, _, 0, _, .cons h _, e => by simp at e; subst e; exact ⟨_, rfl, h⟩
  | _, _, i + 1, _, .cons _ r, e => by
    obtain ⟨v, h1, h2⟩ := Reps.get i r (by simpa using e)
    exact ⟨v, by simpa using h1, h2⟩
theorem Reps.append : ∀ {xs ys : List V} {ds es : List D}, Reps K H xs ds → Reps K H ys es → Reps K H (xs ++ ys) (ds ++ es)
  | _, _, _, _, .nil, s => s
  | _, _, _, _, .cons r t, s => .cons r (Reps.append t s)
theorem Reps.take : ∀ {xs : List V} {ds : List D} (n : Nat), Reps K H xs ds → Reps K H (xs.take n) (ds.take n)
  | _, _, 0, _ => .nil
  | _, _, _ + 1, .nil => .nil
  | _, _, n + 1, .cons r t => .cons r (Reps.take n t)
theorem Reps.drop : ∀ {xs : List V} {ds : List D} (n : Nat), Reps K H xs ds → Reps K H (xs.drop n) (ds.drop n)
  | _, _, 0, r => r
  | _, _, _ + 1, .nil => .nil
  | _, _, n + 1, .cons r t => Reps.drop n t
theorem Reps.set {v : V} {d : D} (r : Rep K H v d) : ∀ {xs : List V} {ds : List D} (i : Nat), Reps K H xs ds → Reps K H (xs.set i v) (ds.set i d)
  | _, _, _, .nil => .nil
  | _, _, 0, .cons _ t => .cons r t
  | _, _, i + 1, .cons q t => .cons q (Reps.set r i t)
theorem Reps.ints : ∀ {vs : List V} {ns : List Int}, Reps K H vs (ns.map D.int) → vs = ns.map V.int
  | _, [], .nil => rfl
  | _, n :: ns, .cons h r => by cases h; rw [Reps.ints r]; rfl
theorem Reps.of_ints : ∀ (ns : List Int), Reps K H (ns.map V.int) (ns.map D.int)
  | [] => .nil
  | n :: ns => .cons (.int n) (Reps.of_ints ns)
end

/-- what a slot holds: nothing known; a value that stands still; a list, an instance of one's own (p: a parameter handed in to be changed) -/
inductive SV where
  | un
  | val (d : D)
  | own (p : Bool) (xs : List D)
  | ins (p : Bool) (c : Str) (ns : List Str) (ds : List D)
  | dic (p : Bool) (ks : List Key) (ds : List D)
  /-- a value that the context knows -/
  | pin
abbrev Ro := List SV
def SV.isOwn : SV → Bool
  | .own _ _ => true | .ins _ _ _ _ => true | .dic _ _ _ => true | _ => false
def SV.isIo : SV → Bool
  | .own p _ => p | .ins p _ _ _ => p | .dic p _ _ => p | .pin => true | _ => false
def SV.isHd : SV → Bool
  | .own p _ => p | .ins p _ _ _ => p | .dic p _ _ => p | _ => false
def SV.isPin : SV → Bool
  | .pin => true | _ => false
def SV.isFar (sv : SV) : Bool := sv.isOwn || sv.isPin
theorem SV.far_own {sv : SV} (h : sv.isFar = false) : sv.isOwn = false := by
  cases sv <;> first | rfl | cases h
theorem SV.far_io {sv : SV} (h : sv.isFar = false) : sv.isIo = false := by
  cases sv <;> first | rfl | cases h
theorem SV.isHd_io {sv : SV} (h : sv.isHd = true) : sv.isIo = true := by
  cases sv <;> first | exact h | cases h

/-- what stood at the entry; the parameters that may be changed; objects that wait -/
structure Ent where
  H0 : Hp
  F0 : Hp
  io : List (Nat × Addr)
  xt : List (Addr × HO)

def SlotOk (K : PySem.W.Frag) (H F : Hp) (s : Option (Option V)) : SV → Prop
  | .un => True
  | .val d => ∃ v, s = some (some v) ∧ Rep K F v d
  | .own _ xs => ∃ a vs, s = some (some (V.ref a)) ∧ H a = some (.lst vs) ∧ F a = none ∧ Reps K F vs xs
  | .ins _ c ns ds => ∃ a dx vs, s = some (some (V.ref a)) ∧ H a = some (.ins (He.ga K c) dx (ns.zip vs)) ∧ ns.length = vs.length ∧ F a = none ∧ Reps K F vs ds
  | .dic _ ks ds => ∃ a vs, s = some (some (V.ref a)) ∧ H a = some (.dK (ks.zip vs)) ∧ ks.length = vs.length ∧ F a = none ∧ Reps K F vs ds
  | .pin => True

section PinS
variable [Pins]
structure Stt (K : PySem.W.Frag) (G : Ent) (σ : St) (H F : Hp) (ρ : Ro) : Prop where
  sub : Sm F H
  ft : Ftb F
  tb : LamX.Tabs (Lam.T K) H
  same : ∀ a o, G.H0 a = some o → (∀ i, (i, a) ∉ G.io) → isTb o = false → H a = some o
  ext : Sm G.F0 F
  new : ∀ a o, F a = some o → G.F0 a = some o ∨ Nn G.H0 a
  len : ρ.length = σ.length
  at_ : ∀ i, SlotOk K H F (σ[i]?) (ρ.getD i .un)
  dis : ∀ i j a, (ρ.getD i .un).isOwn = true → (ρ.getD j .un).isOwn = true → σ[i]? = some (some (V.ref a)) → σ[j]? = some (some (V.ref a)) → i = j
  fresh : ∀ i a, (ρ.getD i .un).isOwn = true → σ[i]? = some (some (V.ref a)) → Nn G.H0 a ∨ (i, a) ∈ G.io
  io : ∀ i a, (i, a) ∈ G.io → σ[i]? = some (some (V.ref a)) ∧ (ρ.getD i .un).isHd = true
  xt : ∀ p ∈ G.xt, H p.1 = some p.2 ∧ F p.1 = none ∧ Nn G.H0 p.1 ∧ ∀ i, (ρ.getD i .un).isOwn = true → σ[i]? ≠ some (some (V.ref p.1))
  xx : ∀ p ∈ G.xt, isX p.2 = false
  xtd : (G.xt.map (·.1)).Nodup
  pin : ∀ i v, (i, v) ∈ Pins.pv → σ[i]? = some (some v) ∧ ρ.getD i .un = .pin
  pf : Sm Pins.pf F

/-- a class by its name: the text's own, a built-in one -/
inductive Cn where
  | own (x : Str)
  | bi (x : String)
def Cn.v (K : PySem.W.Frag) : Cn → Value
  | .own x => .ref (He.ga K x)
  | .bi x => .type x
structure Ex where
  c : Cn
  fs : List (Str × D)
/-- an exception's own dict -/
def ExcAt (K : PySem.W.Frag) (F : Hp) (d : Option Addr) (fs : List (Str × D)) : Prop :=
  (fs = [] ∧ d = none) ∨ ∃ dd vs, d = some dd ∧ F dd = some (.xd ((fs.map (·.1)).zip vs)) ∧ Reps K F vs (fs.map (·.2))

inductive R (α : Type) where
  | ok (a : α) (ρ : Ro)
  | exc (x : Ex) (ρ : Ro)
  | stuck
abbrev M (α : Type) := Ro → R α
def R.bind {α β : Type} (r : R α) (k : α → Ro → R β) : R β := match r with
  | .ok a ρ => k a ρ
  | .exc x ρ => .exc x ρ
  | .stuck => .stuck
/-- what a def or an operation gives -/
inductive FR (α : Type) where
  | ok (a : α)
  | exc (x : Ex)
  | stuck
def FR.lift {α : Type} (r : FR α) (ρ : Ro) : R α := match r with
  | .ok a => .ok a ρ
  | .exc x => .exc x ρ
  | .stuck => .stuck
def FR.bind {α β : Type} (r : FR α) (k : α → FR β) : FR β := match r with
  | .ok a => k a
  | .exc x => .exc x
  | .stuck => .stuck

/-- r is what is wanted: P where it goes through, W of an exception -/
def Good {α : Type} (K : PySem.W.Frag) (G : Ent) (W : WX) (σ : St) (F : Hp) (r : R α) (P : α → Ro → Hp → Hp → Prop) : Prop := match r with
  | .ok a ρ => ∀ H' F', Stt K G σ H' F' ρ → Sm F F' → P a ρ H' F'
  | .exc x ρ => ∀ d H' F', Stt K G σ H' F' ρ → Sm F F' → ExcAt K F' d x.fs → W (x.c.v K) d σ H'
  | .stuck => False
theorem Good.mono {α : Type} {K : PySem.W.Frag} {G : Ent} {W : WX} {σ : St} {F F1 : Hp} {r : R α} {P : α → Ro → Hp → Hp → Prop} (s : Sm F F1) (h : Good K G W σ F r P) : Good K G W σ F1 r P := by
  cases r with
  | ok a ρ => exact fun H' F' S q => h H' F' S (s.tr q)
  | exc x ρ => exact fun d H' F' S q => h d H' F' S (s.tr q)
  | stuck => exact h
theorem Good.bind {α β : Type} {K : PySem.W.Frag} {G : Ent} {W : WX} {σ : St} {F : Hp} {r : R α} {k : α → Ro → R β} {P : α → Ro → Hp → Hp → Prop} {P' : β → Ro → Hp → Hp → Prop}
    (h : Good K G W σ F (r.bind k) P') (f : ∀ a ρ H' F', Stt K G σ H' F' ρ → Sm F F' → Good K G W σ F' (k a ρ) P' → P a ρ H' F') : Good K G W σ F r P := by
  cases r with
  | ok a ρ => exact fun H' F' S q => f a ρ H' F' S q (Good.mono q h)
  | exc x ρ => exact h
  | stuck => exact h

abbrev PD (K : PySem.W.Frag) (Q : VK) : D → Ro → Hp → Hp → Prop := fun d _ H' F' => ∀ v, Rep K F' v d → Q v H'
abbrev PB (Q : Bool → Hp → Prop) : Bool → Ro → Hp → Hp → Prop := fun b _ H' _ => Q b H'
abbrev PL (K : PySem.W.Frag) (Q : List V → Hp → Prop) : List D → Ro → Hp → Hp → Prop := fun ds _ H' F' => ∀ vs, Reps K F' vs ds → Q vs H'

/-- the expression e does what f says -/
def AE (X : Cx) (W : WX) (e : Expr) (f : M D) : Prop := ∃ t, PE X e t ∧ ∀ G σ H F ρ Q, Stt X.K G σ H F ρ → Good X.K G W σ F (f ρ) (PD X.K Q) → t σ H Q
def AT (X : Cx) (W : WX) (e : Expr) (f : M Bool) : Prop := ∃ t, PT X e t ∧ ∀ G σ H F ρ Q, Stt X.K G σ H F ρ → Good X.K G W σ F (f ρ) (PB Q) → t σ H Q
def AW (X : Cx) (W : WX) (e : Expr) (f : M Bool) : Prop := ∃ t, PW X e t ∧ ∀ G σ H F ρ Q, Stt X.K G σ H F ρ → Good X.K G W σ F (f ρ) (PB Q) → t σ H Q
def AA (X : Cx) (W : WX) (es : List Expr) (f : M (List D)) : Prop := ∃ t, PA X es t ∧ ∀ G σ H F ρ Q, Stt X.K G σ H F ρ → Good X.K G W σ F (f ρ) (PL X.K Q) → t σ H Q

section
variable {K : PySem.W.Frag} {G : Ent} {σ : St} {H F H' F' : Hp} {ρ : Ro}
theorem SlotOk.there {s : Option (Option V)} {sv : SV} (q : SlotOk K H F s sv) (ho : sv.isOwn = true) : ∃ a o, s = some (some (V.ref a)) ∧ H a = some o ∧ F a = none ∧ isX o = false := by
  cases sv with
  | un => cases ho
  | val d => cases ho
  | own p xs => obtain ⟨a, vs, e1, e2, e3, _⟩ := q; exact ⟨a, _, e1, e2, e3, rfl⟩
  | ins p C ns ds => obtain ⟨a, dx, vs, e1, e2, _, e3, _⟩ := q; exact ⟨a, _, e1, e2, e3, rfl⟩
  | dic p ks ds => obtain ⟨a, vs, e1, e2, _, e3, _⟩ := q; exact ⟨a, _, e1, e2, e3, rfl⟩
  | pin => cases ho
theorem SV.own_of_io {sv : SV} (h : sv.isHd = true) : sv.isOwn = true := by
  cases sv <;> first | rfl | cases h
/-- a slot as it stands, where the heap has grown -/
theorem SlotOk.grow {s : Option (Option V)} {sv : SV} (q : SlotOk K H F s sv) (h1 : SmT K H H') (h3 : Sm F F') (h4 : ∀ a o, F' a = some o → F a = some o ∨ Nn H a) : SlotOk K H' F' s sv := by
  have nF : ∀ a o, H a = some o → F a = none → isX o = false → F' a = none := fun a o e1 e2 n => by
    cases e : F' a with
    | none => rfl
    | some u =>
      rcases h4 a u e with z | z
      · rw [e2] at z; cases z
      · exact (z.no e1 n).elim
  cases sv with
  | un => trivial
  | val d => obtain ⟨v, e, r⟩ := q; exact ⟨v, e, r.mono h3⟩
  | own p xs => obtain ⟨a, vs, e1, e2, e3, r⟩ := q; exact ⟨a, vs, e1, h1.k _ _ e2 rfl, nF _ _ e2 e3 rfl, r.mono h3⟩
  | ins p C ns ds => obtain ⟨a, dx, vs, e1, e2, e0, e3, r⟩ := q; exact ⟨a, dx, vs, e1, h1.k _ _ e2 rfl, e0, nF _ _ e2 e3 rfl, r.mono h3⟩
  | dic p ks ds => obtain ⟨a, vs, e1, e2, e0, e3, r⟩ := q; exact ⟨a, vs, e1, h1.k _ _ e2 rfl, e0, nF _ _ e2 e3 rfl, r.mono h3⟩
  | pin => trivial
theorem Stt.alive (S : Stt K G σ H F ρ) {a : Addr} {o : HO} (h : G.H0 a = some o) (n : isX o = false) : ∃ u, H a = some u ∧ isX u = false := by
  by_cases hi : ∃ i, (i, a) ∈ G.io
  · obtain ⟨i, hi⟩ := hi
    obtain ⟨e1, e2⟩ := S.io i a hi
    obtain ⟨b, u, e3, e4, _, e5⟩ := (S.at_ i).there (SV.own_of_io e2)
    rw [e1] at e3; cases e3
    exact ⟨u, e4, e5⟩
  · exact ⟨o, S.same a o h (fun i z => hi ⟨i, z⟩) (isX_tb n), n⟩
theorem Stt.gone (S : Stt K G σ H F ρ) {a : Addr} (h : Nn H a) : Nn G.H0 a := fun o e => by
  cases n : isX o with
  | true => rfl
  | false => obtain ⟨u, z, m⟩ := S.alive e n; exact (h.no z m).elim
theorem Stt.own_upd (S : Stt K G σ H F ρ) {i : Nat} {a : Addr} {o : HO} (ho : (ρ.getD i .un).isOwn = true) (e1 : σ[i]? = some (some (V.ref a))) : SmA K a H (upd H a o) := by
  obtain ⟨b, u, x1, x2, _, x3⟩ := (S.at_ i).there ho
  rw [e1] at x1; cases x1
  exact .upd x2 x3
/-- the heap has grown, all that was tracked stands -/
theorem Stt.grow (S : Stt K G σ H F ρ) (h1 : SmT K H H') (h2 : Sm F' H') (h3 : Sm F F') (h4 : ∀ a o, F' a = some o → F a = some o ∨ Nn H a) (h5 : Ftb F') : Stt K G σ H' F' ρ := by
  refine ⟨h2, h5, h1.t S.tb, fun a o e n m => h1.k _ _ (S.same a o e n m) m, S.ext.tr h3, fun a o e => (h4 a o e).elim (S.new a o) fun z => .inr (S.gone z), S.len, fun i => (S.at_ i).grow h1 h3 h4, S.dis, S.fresh, S.io, fun p hp => ?_, S.xx, S.xtd, S.pin, S.pf.tr h3⟩
  obtain ⟨e1, e2, e3, e4⟩ := S.xt p hp
  have n := S.xx p hp
  refine ⟨h1.k _ _ e1 (isX_tb n), ?_, e3, e4⟩
  cases e : F' p.1 with
  | none => rfl
  | some u =>
    rcases h4 p.1 u e with z | z
    · rw [e2] at z; cases z
    · exact (z.no e1 n).elim
/-- a new object that stands still -/
theorem Stt.alloc (S : Stt K G σ H F ρ) {p : Addr} {o : HO} (hp : H p = none) (ho : isTb o = false := by rfl) : Stt K G σ (upd H p o) (upd F p o) ρ := by
  have fp : F p = none := S.sub.none hp
  refine S.grow (Sm.updN hp).t (fun a u h => ?_) (Sm.updN fp) (fun a u h => ?_) (S.ft.upd ho)
  · by_cases e : a = p
    · subst e; rw [upd_same] at h ⊢; exact h
    · rw [upd_ne e] at h ⊢; exact S.sub a u h
  · by_cases e : a = p
    · subst e; exact .inr (.of hp)
    · rw [upd_ne e] at h; exact .inl h
theorem Stt.allocF (S : Stt K G σ H F ρ) {p : Addr} {o : HO} (hp : H p = none) : Sm F (upd F p o) := Sm.updN (S.sub.none hp)

theorem getD_set {ρ : Ro} {i j : Nat} {x : SV} : (ρ.set i x).getD j .un = if i = j ∧ j < ρ.length then x else ρ.getD j .un := by
  rw [List.getD_eq_getElem?_getD, List.getD_eq_getElem?_getD, List.getElem?_set]
  by_cases h : i = j
  · subst h
    by_cases l : i < ρ.length
    · simp [l]
    · simp [l]
  · simp [h]
theorem get_setσ {σ : St} {i j : Nat} {x : Option V} : (σ.set i x)[j]? = if i = j ∧ j < σ.length then some x else σ[j]? := by
  rw [List.getElem?_set]
  by_cases h : i = j
  · subst h
    by_cases l : i < σ.length
    · simp [l]
    · simp [l]
  · simp [h]
/-- a slot is stored to -/
theorem Stt.set (S : Stt K G σ H F ρ) {i : Nat} {v : Option V} {sv : SV} (hio : (ρ.getD i .un).isIo = false) (q : SlotOk K H F (some v) sv) (hp : sv.isIo = false)
    (hn : sv.isOwn = true → ∀ a, v = some (V.ref a) → Nn G.H0 a ∧ (∀ j, (ρ.getD j .un).isOwn = true → σ[j]? ≠ some (some (V.ref a))) ∧ ∀ p ∈ G.xt, p.1 ≠ a) : Stt K G (σ.set i v) H F (ρ.set i sv) := by
  have noio : ∀ a, (i, a) ∉ G.io := fun a z => by
    have := SV.isHd_io (S.io i a z).2
    rw [hio] at this; cases this
  refine ⟨S.sub, S.ft, S.tb, S.same, S.ext, S.new, by simp [S.len], fun j => ?_, fun j k a h1 h2 h3 h4 => ?_, fun j a h1 h2 => ?_, fun j a hj => ?_, fun p hp => ?_, S.xx, S.xtd, fun j a hj => ?_, S.pf⟩
  · rw [getD_set, get_setσ, S.len]
    by_cases c : i = j ∧ j < σ.length
    · rw [if_pos c, if_pos c]; exact q
    · rw [if_neg c, if_neg c]; exact S.at_ j
  · rw [getD_set, S.len] at h1 h2
    rw [get_setσ] at h3 h4
    by_cases c : i = j ∧ j < σ.length
    · rw [if_pos c] at h1 h3
      by_cases c' : i = k ∧ k < σ.length
      · exact c.1.symm.trans c'.1
      · rw [if_neg c'] at h2 h4
        exact absurd h4 ((hn h1 a (Option.some.inj h3)).2.1 k h2)
    · rw [if_neg c] at h1 h3
      by_cases c' : i = k ∧ k < σ.length
      · rw [if_pos c'] at h2 h4
        exact absurd h3 ((hn h2 a (Option.some.inj h4)).2.1 j h1)
      · rw [if_neg c'] at h2 h4
        exact S.dis j k a h1 h2 h3 h4
  · rw [getD_set, S.len] at h1
    rw [get_setσ] at h2
    by_cases c : i = j ∧ j < σ.length
    · rw [if_pos c] at h1 h2
      exact .inl (hn h1 a (Option.some.inj h2)).1
    · rw [if_neg c] at h1 h2
      exact S.fresh j a h1 h2
  · have ne : i ≠ j := fun e => noio a (e ▸ hj)
    obtain ⟨e1, e2⟩ := S.io j a hj
    rw [getD_set, get_setσ, if_neg (fun c => ne c.1), if_neg (fun c => ne c.1)]
    exact ⟨e1, e2⟩
  · obtain ⟨e1, e2, e3, e4⟩ := S.xt p hp
    refine ⟨e1, e2, e3, fun j h1 h2 => ?_⟩
    rw [getD_set, S.len] at h1
    rw [get_setσ] at h2
    by_cases c : i = j ∧ j < σ.length
    · rw [if_pos c] at h1 h2
      exact (hn h1 p.1 (Option.some.inj h2)).2.2 p hp rfl
    · rw [if_neg c] at h1 h2
      exact e4 j h1 h2
  · obtain ⟨e1, e2⟩ := S.pin j a hj
    have ne : i ≠ j := fun e => by subst e; rw [e2] at hio; cases hio
    rw [getD_set, get_setσ, if_neg (fun c => ne c.1), if_neg (fun c => ne c.1)]
    exact ⟨e1, e2⟩
theorem Stt.setVal (S : Stt K G σ H F ρ) {i : Nat} {v : V} {d : D} (hio : (ρ.getD i .un).isIo = false) (r : Rep K F v d) : Stt K G (σ.set i (some v)) H F (ρ.set i (.val d)) :=
  S.set hio ⟨v, rfl, r⟩ rfl fun h => by cases h
/-- a slot is forgotten (its value may be any) -/
theorem Stt.drop (S : Stt K G σ H F ρ) {i : Nat} {v : Option V} (hio : (ρ.getD i .un).isIo = false) : Stt K G (σ.set i v) H F (ρ.set i .un) :=
  S.set hio trivial rfl fun h => by cases h
/-- a list of one's own is let go: it stands still from now on -/
theorem Stt.freezeG (S : Stt K G σ H F ρ) {i : Nat} {a : Addr} {o : HO} {dv : D} (own : (ρ.getD i .un).isOwn = true) (hio : (ρ.getD i .un).isIo = false) (e1 : σ[i]? = some (some (V.ref a))) (e2 : H a = some o) (e3 : F a = none) (rl : Rep K (upd F a o) (.ref a) dv) (eo : isTb o = false := by rfl) :
    Stt K G σ H (upd F a o) (ρ.set i (.val dv)) := by
  have il : i < ρ.length := by
    rw [S.len]
    exact (List.getElem?_eq_some_iff.mp e1).1
  have sF : Sm F (upd F a o) := Sm.updN e3
  have noio : ∀ a, (i, a) ∉ G.io := fun a z => by
    have := SV.isHd_io (S.io i a z).2
    rw [hio] at this; cases this
  have h0 : Nn G.H0 a := (S.fresh i a own e1).elim id fun z => absurd z (noio a)
  have other : ∀ j b, i ≠ j → (ρ.getD j .un).isOwn = true → σ[j]? = some (some (V.ref b)) → b ≠ a := fun j b ne o e z => ne (S.dis i j a own o e1 (z ▸ e))
  refine ⟨fun b u h => ?_, S.ft.upd eo, S.tb, S.same, S.ext.tr sF, fun b u h => ?_, by simp [S.len], fun j => ?_, fun j k b h1 h2 => ?_, fun j b h1 h2 => ?_, fun j b hj => ?_, fun p hp => ?_, S.xx, S.xtd, fun j b hj => ?_, S.pf.tr sF⟩
  · by_cases e : b = a
    · subst e; rw [upd_same] at h; cases h; exact e2
    · rw [upd_ne e] at h; exact S.sub b u h
  · by_cases e : b = a
    · subst e; exact .inr h0
    · rw [upd_ne e] at h; exact S.new b u h
  · rw [getD_set]
    by_cases c : i = j ∧ j < ρ.length
    · rw [if_pos c, ← c.1]; exact ⟨_, e1, rl⟩
    · rw [if_neg c]
      have ne : i ≠ j := fun e => c ⟨e, e ▸ il⟩
      have q := S.at_ j
      cases hs : ρ.getD j .un with
      | un => trivial
      | val d => rw [hs] at q; obtain ⟨v, e, r⟩ := q; exact ⟨v, e, r.mono sF⟩
      | own p ys =>
        have o := fun b => other j b ne
        rw [hs] at q o
        obtain ⟨b, ws, f1, f2, f3, r'⟩ := q
        exact ⟨b, ws, f1, f2, by rw [upd_ne (o b rfl f1)]; exact f3, r'.mono sF⟩
      | ins p C ns ds =>
        have o := fun b => other j b ne
        rw [hs] at q o
        obtain ⟨b, dx, ws, f1, f2, f0, f3, r'⟩ := q
        exact ⟨b, dx, ws, f1, f2, f0, by rw [upd_ne (o b rfl f1)]; exact f3, r'.mono sF⟩
      | dic p ks ds =>
        have o := fun b => other j b ne
        rw [hs] at q o
        obtain ⟨b, ws, f1, f2, f0, f3, r'⟩ := q
        exact ⟨b, ws, f1, f2, f0, by rw [upd_ne (o b rfl f1)]; exact f3, r'.mono sF⟩
      | pin => trivial
  · rw [getD_set] at h1 h2
    by_cases c : i = j ∧ j < ρ.length
    · rw [if_pos c] at h1; cases h1
    · rw [if_neg c] at h1
      by_cases c' : i = k ∧ k < ρ.length
      · rw [if_pos c'] at h2; cases h2
      · rw [if_neg c'] at h2; exact S.dis j k b h1 h2
  · rw [getD_set] at h1
    by_cases c : i = j ∧ j < ρ.length
    · rw [if_pos c] at h1; cases h1
    · rw [if_neg c] at h1; exact S.fresh j b h1 h2
  · have ne : i ≠ j := fun e => noio b (e ▸ hj)
    obtain ⟨e1, e2⟩ := S.io j b hj
    rw [getD_set, if_neg (fun c => ne c.1)]
    exact ⟨e1, e2⟩
  · obtain ⟨f1, f2, f3, f4⟩ := S.xt p hp
    have pa : p.1 ≠ a := fun e => f4 i own (e ▸ e1)
    refine ⟨f1, by rw [upd_ne pa]; exact f2, f3, fun j h1 h2 => ?_⟩
    rw [getD_set] at h1
    by_cases c : i = j ∧ j < ρ.length
    · rw [if_pos c] at h1; cases h1
    · rw [if_neg c] at h1; exact f4 j h1 h2
  · obtain ⟨e1, e2⟩ := S.pin j b hj
    have ne : i ≠ j := fun e => by subst e; rw [e2] at hio; cases hio
    rw [getD_set, if_neg (fun c => ne c.1)]
    exact ⟨e1, e2⟩
theorem Stt.freezeX (S : Stt K G σ H F ρ) {i : Nat} {xs : List D} (hi : ρ.getD i .un = .own false xs) : ∃ a vs, σ[i]? = some (some (V.ref a)) ∧ H a = some (.lst vs) ∧ F a = none ∧ Reps K F vs xs ∧ Stt K G σ H (upd F a (.lst vs)) (ρ.set i (.val (.lst xs))) ∧ Sm F (upd F a (.lst vs)) ∧ Rep K (upd F a (.lst vs)) (.ref a) (.lst xs) := by
  have q := S.at_ i
  rw [hi] at q
  obtain ⟨a, vs, e1, e2, e3, r⟩ := q
  have rl : Rep K (upd F a (.lst vs)) (.ref a) (.lst xs) := .lst upd_same (r.mono (Sm.updN e3))
  exact ⟨a, vs, e1, e2, e3, r, S.freezeG (by rw [hi]; rfl) (by rw [hi]; rfl) e1 e2 e3 rl, Sm.updN e3, rl⟩
theorem Stt.freezeD (S : Stt K G σ H F ρ) {i : Nat} {ks : List Key} {xs : List D} (hi : ρ.getD i .un = .dic false ks xs) : ∃ a F', σ[i]? = some (some (V.ref a)) ∧ Stt K G σ H F' (ρ.set i (.val (.dct ks xs))) ∧ Sm F F' ∧ Rep K F' (.ref a) (.dct ks xs) := by
  have q := S.at_ i
  rw [hi] at q
  obtain ⟨a, vs, e1, e2, e0, e3, r⟩ := q
  have rl : Rep K (upd F a (.dK (ks.zip vs))) (.ref a) (.dct ks xs) := .dct upd_same e0 (r.mono (Sm.updN e3))
  exact ⟨a, _, e1, S.freezeG (by rw [hi]; rfl) (by rw [hi]; rfl) e1 e2 e3 rl, Sm.updN e3, rl⟩
theorem Stt.freeze (S : Stt K G σ H F ρ) {i : Nat} {xs : List D} (hi : ρ.getD i .un = .own false xs) : ∃ a F', σ[i]? = some (some (V.ref a)) ∧ Stt K G σ H F' (ρ.set i (.val (.lst xs))) ∧ Sm F F' ∧ Rep K F' (.ref a) (.lst xs) :=
  let ⟨a, vs, e1, _, _, _, s, f, r⟩ := S.freezeX hi
  ⟨a, _, e1, s, f, r⟩
/-- what is one's own at slot i is changed in place (by oneself or by a callee); the heap may have grown beside -/
theorem Stt.change (S : Stt K G σ H F ρ) {i : Nat} {a : Addr} {sv : SV} (ho : (ρ.getD i .un).isOwn = true) (e1 : σ[i]? = some (some (V.ref a)))
    (h1 : SmA K a H H') (h2 : Sm F' H') (h3 : Sm F F') (h4 : ∀ b o, F' b = some o → F b = some o ∨ Nn H b) (h5 : Ftb F')
    (q : SlotOk K H' F' (some (some (V.ref a))) sv) (hso : sv.isOwn = true) (hsi : sv.isHd = (ρ.getD i .un).isHd) : Stt K G σ H' F' (ρ.set i sv) := by
  have il : i < ρ.length := by
    rw [S.len]
    exact (List.getElem?_eq_some_iff.mp e1).1
  obtain ⟨a', oa, ea, ha, fa, hx⟩ := (S.at_ i).there ho
  rw [e1] at ea; cases ea
  have other : ∀ j b, i ≠ j → (ρ.getD j .un).isOwn = true → σ[j]? = some (some (V.ref b)) → b ≠ a := fun j b ne o e z => ne (S.dis i j a ho o e1 (z ▸ e))
  have nF : ∀ b o, H b = some o → F b = none → isX o = false → F' b = none := fun b o e1 e2 n => by
    cases e : F' b with
    | none => rfl
    | some u =>
      rcases h4 b u e with z | z
      · rw [e2] at z; cases z
      · exact (z.no e1 n).elim
  refine ⟨h2, h5, h1.t S.tb, fun b o e n m => ?_, S.ext.tr h3, fun b o e => (h4 b o e).elim (S.new b o) fun z => .inr (S.gone z), by simp [S.len], fun j => ?_, fun j k b k1 k2 => ?_, fun j b k1 k2 => ?_, fun j b hj => ?_, fun p hp => ?_, S.xx, S.xtd, fun j b hj => ?_, S.pf.tr h3⟩
  · by_cases eb : b = a
    · subst eb
      rcases S.fresh i b ho e1 with z | z
      · have q := S.same b o e n m
        rw [ha] at q; cases q
        exact (z.no e hx).elim
      · exact absurd z (n i)
    · exact h1.k b o eb (S.same b o e n m) m
  · rw [getD_set]
    by_cases c : i = j ∧ j < ρ.length
    · rw [if_pos c, ← c.1, e1]; exact q
    · rw [if_neg c]
      have ne : i ≠ j := fun e => c ⟨e, e ▸ il⟩
      have q := S.at_ j
      cases hs : ρ.getD j .un with
      | un => trivial
      | val d => rw [hs] at q; obtain ⟨v, e, r⟩ := q; exact ⟨v, e, r.mono h3⟩
      | own p ys =>
        have o := fun b => other j b ne
        rw [hs] at q o
        obtain ⟨b, ws, f1, f2, f3, r'⟩ := q
        exact ⟨b, ws, f1, h1.k _ _ (o b rfl f1) f2 rfl, nF _ _ f2 f3 rfl, r'.mono h3⟩
      | ins p C ns ds =>
        have o := fun b => other j b ne
        rw [hs] at q o
        obtain ⟨b, dx, ws, f1, f2, f0, f3, r'⟩ := q
        exact ⟨b, dx, ws, f1, h1.k _ _ (o b rfl f1) f2 rfl, f0, nF _ _ f2 f3 rfl, r'.mono h3⟩
      | dic p ks ds =>
        have o := fun b => other j b ne
        rw [hs] at q o
        obtain ⟨b, ws, f1, f2, f0, f3, r'⟩ := q
        exact ⟨b, ws, f1, h1.k _ _ (o b rfl f1) f2 rfl, f0, nF _ _ f2 f3 rfl, r'.mono h3⟩
      | pin => trivial
  · rw [getD_set] at k1 k2
    have p1 : (ρ.getD j .un).isOwn = true := by
      by_cases c : i = j ∧ j < ρ.length
      · rw [← c.1]; exact ho
      · rw [if_neg c] at k1; exact k1
    have p2 : (ρ.getD k .un).isOwn = true := by
      by_cases c : i = k ∧ k < ρ.length
      · rw [← c.1]; exact ho
      · rw [if_neg c] at k2; exact k2
    exact S.dis j k b p1 p2
  · have p1 : (ρ.getD j .un).isOwn = true := by
      rw [getD_set] at k1
      by_cases c : i = j ∧ j < ρ.length
      · rw [← c.1]; exact ho
      · rw [if_neg c] at k1; exact k1
    exact S.fresh j b p1 k2
  · obtain ⟨f1, f2⟩ := S.io j b hj
    refine ⟨f1, ?_⟩
    rw [getD_set]
    by_cases c : i = j ∧ j < ρ.length
    · rw [if_pos c, hsi, c.1]; exact f2
    · rw [if_neg c]; exact f2
  · obtain ⟨f1, f2, f3, f4⟩ := S.xt p hp
    have pa : p.1 ≠ a := fun e => f4 i ho (e ▸ e1)
    refine ⟨h1.k _ _ pa f1 (isX_tb (S.xx p hp)), nF _ _ f1 f2 (S.xx p hp), f3, fun j k1 => ?_⟩
    have p1 : (ρ.getD j .un).isOwn = true := by
      rw [getD_set] at k1
      by_cases c : i = j ∧ j < ρ.length
      · rw [← c.1]; exact ho
      · rw [if_neg c] at k1; exact k1
    exact f4 j p1
  · obtain ⟨x1, x2⟩ := S.pin j b hj
    have ne : i ≠ j := fun e => by subst e; rw [x2] at ho; cases ho
    rw [getD_set, if_neg (fun c => ne c.1)]
    exact ⟨x1, x2⟩
end

section
variable {K : PySem.W.Frag} {H0 F0 : Hp} {io : List (Nat × Addr)} {xt : List (Addr × HO)} {σ : St} {H F : Hp} {ρ : Ro}
/-- a new object that waits -/
theorem Stt.xtNew (S : Stt K ⟨H0, F0, io, xt⟩ σ H F ρ) {a : Addr} {o : HO} (ha : H a = none) (ho : isX o = false := by rfl) : Stt K ⟨H0, F0, io, (a, o) :: xt⟩ σ (upd H a o) F ρ := by
  have fa := S.sub.none ha
  have S1 : Stt K ⟨H0, F0, io, xt⟩ σ (upd H a o) F ρ := S.grow (Sm.updN ha).t (S.sub.tr (Sm.updN ha)) Sm.refl (fun _ _ e => .inl e) S.ft
  refine ⟨S1.sub, S1.ft, S1.tb, S1.same, S1.ext, S1.new, S1.len, S1.at_, S1.dis, S1.fresh, S1.io, fun p hp => ?_, fun p hp => ?_, ?_, S1.pin, S1.pf⟩
  · rcases List.mem_cons.mp hp with rfl | hp
    · refine ⟨upd_same, fa, S.gone (.of ha), fun i h1 h2 => ?_⟩
      obtain ⟨b, u, e1, e2, _⟩ := (S.at_ i).there h1
      rw [h2] at e1; cases e1
      rw [ha] at e2; cases e2
    · exact S1.xt p hp
  · rcases List.mem_cons.mp hp with rfl | hp
    · exact ho
    · exact S.xx p hp
  · refine List.nodup_cons.mpr ⟨fun hm => ?_, S.xtd⟩
    obtain ⟨p, hp, e⟩ := List.mem_map.mp hm
    have := (S.xt p hp).1
    rw [e, ha] at this; cases this
/-- an object that has come, of one's own -/
theorem Stt.xtAdd {H1 F1 : Hp} (S : Stt K ⟨H0, F0, io, xt⟩ σ H1 F1 ρ) {a : Addr} {o : HO} (h1 : SmT K H1 H) (h2 : Sm F H) (h3 : Sm F1 F) (h4 : ∀ b u, F b = some u → F1 b = some u ∨ Nn H1 b) (h5 : Ftb F) (ha : H a = some o) (fa : F a = none) (na : Nn H1 a) (ho : isX o = false := by rfl) : Stt K ⟨H0, F0, io, (a, o) :: xt⟩ σ H F ρ := by
  have S1 := S.grow h1 h2 h3 h4 h5
  refine ⟨S1.sub, S1.ft, S1.tb, S1.same, S1.ext, S1.new, S1.len, S1.at_, S1.dis, S1.fresh, S1.io, fun p hp => ?_, fun p hp => ?_, ?_, S1.pin, S1.pf⟩
  · rcases List.mem_cons.mp hp with rfl | hp
    · refine ⟨ha, fa, S.gone na, fun i h1 h2 => ?_⟩
      obtain ⟨b, u, e1, e2, _, e5⟩ := (S.at_ i).there h1
      rw [h2] at e1; cases e1
      exact na.no e2 e5
    · exact S1.xt p hp
  · rcases List.mem_cons.mp hp with rfl | hp
    · exact ho
    · exact S.xx p hp
  · refine List.nodup_cons.mpr ⟨fun hm => ?_, S.xtd⟩
    obtain ⟨p, hp, e⟩ := List.mem_map.mp hm
    have := (S.xt p hp).1
    rw [e] at this
    exact na.no this (S.xx p hp)
/-- it is changed -/
theorem Stt.xtUpd {a : Addr} {o o' : HO} (S : Stt K ⟨H0, F0, io, (a, o) :: xt⟩ σ H F ρ) (ho : isX o' = false := by rfl) : Stt K ⟨H0, F0, io, (a, o') :: xt⟩ σ (upd H a o') F ρ := by
  obtain ⟨e1, e2, e3, e4⟩ := S.xt (a, o) (List.mem_cons_self ..)
  have nd := List.nodup_cons.mp S.xtd
  have oth : ∀ i, (ρ.getD i .un).isOwn = true → ∀ b, σ[i]? = some (some (V.ref b)) → b ≠ a := fun i h b hb e => e4 i h (e ▸ hb)
  refine ⟨fun b u h => ?_, S.ft, tabs_upd (u := o) S.tb (fun v e => by rw [e1] at e; cases e; exact S.xx _ (List.mem_cons_self ..)), fun b u h n m => ?_, S.ext, S.new, S.len, fun i => ?_, S.dis, S.fresh, S.io, fun p hp => ?_, fun p hp => ?_, S.xtd, S.pin, S.pf⟩
  · rw [upd_ne (fun e => by subst e; rw [e2] at h; cases h)]; exact S.sub b u h
  · rw [upd_ne (fun e => by subst e; have q := S.same b u h n m; rw [e1] at q; cases q; exact e3.no h (S.xx _ (List.mem_cons_self ..)))]; exact S.same b u h n m
  · have q := S.at_ i
    have ot := oth i
    cases hs : ρ.getD i .un with
    | un => trivial
    | val d => rw [hs] at q; exact q
    | own p ys =>
      rw [hs] at q ot
      obtain ⟨b, ws, f1, f2, f3, r⟩ := q
      exact ⟨b, ws, f1, by rw [upd_ne (ot rfl b f1)]; exact f2, f3, r⟩
    | ins p C ns ds =>
      rw [hs] at q ot
      obtain ⟨b, dx, ws, f1, f2, f0, f3, r⟩ := q
      exact ⟨b, dx, ws, f1, by rw [upd_ne (ot rfl b f1)]; exact f2, f0, f3, r⟩
    | dic p ks ds =>
      rw [hs] at q ot
      obtain ⟨b, ws, f1, f2, f0, f3, r⟩ := q
      exact ⟨b, ws, f1, by rw [upd_ne (ot rfl b f1)]; exact f2, f0, f3, r⟩
    | pin => trivial
  · rcases List.mem_cons.mp hp with rfl | hp
    · exact ⟨upd_same, e2, e3, e4⟩
    · obtain ⟨f1, f2, f3, f4⟩ := S.xt p (List.mem_cons_of_mem _ hp)
      have ne : p.1 ≠ a := fun e => nd.1 (List.mem_map.mpr ⟨p, hp, e⟩)
      exact ⟨by rw [upd_ne ne]; exact f1, f2, f3, f4⟩
  · rcases List.mem_cons.mp hp with rfl | hp
    · exact ho
    · exact S.xx p (List.mem_cons_of_mem _ hp)
/-- it stands still from now on -/
theorem Stt.xtFreeze {a : Addr} {o : HO} (S : Stt K ⟨H0, F0, io, (a, o) :: xt⟩ σ H F ρ) : Stt K ⟨H0, F0, io, xt⟩ σ H (upd F a o) ρ ∧ Sm F (upd F a o) := by
  obtain ⟨e1, e2, e3, e4⟩ := S.xt (a, o) (List.mem_cons_self ..)
  have nd := List.nodup_cons.mp S.xtd
  have sF : Sm F (upd F a o) := Sm.updN e2
  have oth : ∀ i, (ρ.getD i .un).isOwn = true → ∀ b, σ[i]? = some (some (V.ref b)) → b ≠ a := fun i h b hb e => e4 i h (e ▸ hb)
  refine ⟨⟨fun b u h => ?_, S.ft.upd (isX_tb (S.xx (a, o) (List.mem_cons_self ..))), S.tb, S.same, S.ext.tr sF, fun b u h => ?_, S.len, fun i => ?_, S.dis, S.fresh, S.io, fun p hp => ?_, fun p hp => S.xx p (List.mem_cons_of_mem _ hp), nd.2, S.pin, S.pf.tr sF⟩, sF⟩
  · by_cases e : b = a
    · subst e; rw [upd_same] at h; cases h; exact e1
    · rw [upd_ne e] at h; exact S.sub b u h
  · by_cases e : b = a
    · subst e; exact .inr e3
    · rw [upd_ne e] at h; exact S.new b u h
  · have q := S.at_ i
    have ot := oth i
    cases hs : ρ.getD i .un with
    | un => trivial
    | val d => rw [hs] at q; obtain ⟨v, e, r⟩ := q; exact ⟨v, e, r.mono sF⟩
    | own p ys =>
      rw [hs] at q ot
      obtain ⟨b, ws, f1, f2, f3, r⟩ := q
      exact ⟨b, ws, f1, f2, by rw [upd_ne (ot rfl b f1)]; exact f3, r.mono sF⟩
    | ins p C ns ds =>
      rw [hs] at q ot
      obtain ⟨b, dx, ws, f1, f2, f0, f3, r⟩ := q
      exact ⟨b, dx, ws, f1, f2, f0, by rw [upd_ne (ot rfl b f1)]; exact f3, r.mono sF⟩
    | dic p ks ds =>
      rw [hs] at q ot
      obtain ⟨b, ws, f1, f2, f0, f3, r⟩ := q
      exact ⟨b, ws, f1, f2, f0, by rw [upd_ne (ot rfl b f1)]; exact f3, r.mono sF⟩
    | pin => trivial
  · obtain ⟨f1, f2, f3, f4⟩ := S.xt p (List.mem_cons_of_mem _ hp)
    have ne : p.1 ≠ a := fun e => nd.1 (List.mem_map.mpr ⟨p, hp, e⟩)
    exact ⟨f1, by rw [upd_ne ne]; exact f2, f3, f4⟩
/-- it comes to a slot -/
theorem Stt.xtSlot {a : Addr} {o : HO} {i : Nat} {sv : SV} (S : Stt K ⟨H0, F0, io, (a, o) :: xt⟩ σ H F ρ) (hio : (ρ.getD i .un).isIo = false) (q : SlotOk K H F (some (some (V.ref a))) sv) (hp : sv.isIo = false) :
    Stt K ⟨H0, F0, io, xt⟩ (σ.set i (some (V.ref a))) H F (ρ.set i sv) := by
  obtain ⟨e1, e2, e3, e4⟩ := S.xt (a, o) (List.mem_cons_self ..)
  have nd := List.nodup_cons.mp S.xtd
  have S0 : Stt K ⟨H0, F0, io, xt⟩ σ H F ρ := ⟨S.sub, S.ft, S.tb, S.same, S.ext, S.new, S.len, S.at_, S.dis, S.fresh, S.io, fun p hp => S.xt p (List.mem_cons_of_mem _ hp), fun p hp => S.xx p (List.mem_cons_of_mem _ hp), nd.2, S.pin, S.pf⟩
  refine S0.set hio q hp fun _ b hb => ?_
  cases hb
  exact ⟨e3, e4, fun p hp e => nd.1 (List.mem_map.mpr ⟨p, hp, e⟩)⟩
theorem Stt.xtDrop {a : Addr} {o : HO} (S : Stt K ⟨H0, F0, io, (a, o) :: xt⟩ σ H F ρ) : Stt K ⟨H0, F0, io, xt⟩ σ H F ρ :=
  ⟨S.sub, S.ft, S.tb, S.same, S.ext, S.new, S.len, S.at_, S.dis, S.fresh, S.io, fun p hp => S.xt p (List.mem_cons_of_mem _ hp), fun p hp => S.xx p (List.mem_cons_of_mem _ hp), (List.nodup_cons.mp S.xtd).2, S.pin, S.pf⟩
end

/-- what is known behind a call: all that was tracked stands -/
structure Aft (K : PySem.W.Frag) (H F H' F' : Hp) : Prop where
  h : SmT K H H'
  sub : Sm F' H'
  f : Sm F F'
  new : ∀ a o, F' a = some o → F a = some o ∨ Nn H a
  ft : Ftb F → Ftb F'
theorem Stt.aft {K : PySem.W.Frag} {G : Ent} {σ : St} {H F H' F' : Hp} {ρ : Ro} (S : Stt K G σ H F ρ) (A : Aft K H F H' F') : Stt K G σ H' F' ρ := S.grow A.h A.sub A.f A.new (A.ft S.ft)
def GoodF (K : PySem.W.Frag) (H F : Hp) (r : FR D) (Q : VK) (E : XK) : Prop := match r with
  | .ok d => ∀ v H' F', Aft K H F H' F' → Rep K F' v d → Q v H'
  | .exc x => ∀ d H' F', Aft K H F H' F' → ExcAt K F' d x.fs → E (x.c.v K) d H'
  | .stuck => False
/-- a def of n values -/
structure Pre (K : PySem.W.Frag) (F H : Hp) : Prop where
  sub : Sm F H
  ft : Ftb F
  tb : LamX.Tabs (Lam.T K) H
theorem Stt.pre {K : PySem.W.Frag} {G : Ent} {σ : St} {H F : Hp} {ρ : Ro} (S : Stt K G σ H F ρ) : Pre K F H := ⟨S.sub, S.ft, S.tb⟩
def PSp (K : PySem.W.Frag) (n : Nat) (m : List D → FR D) : Sp := fun vs H Q E => vs.length = n ∧ ∃ F ds, Pre K F H ∧ Reps K F vs ds ∧ GoodF K H F (m ds) Q E
/-- a def that gives a new list -/
def GoodN (K : PySem.W.Frag) (H F : Hp) (r : FR (List D)) (Q : VK) (E : XK) : Prop := match r with
  | .ok xs => ∀ a ws H' F', Aft K H F H' F' → H' a = some (.lst ws) ∧ F' a = none ∧ Nn H a → Reps K F' ws xs → Q (.ref a) H'
  | .exc x => ∀ d H' F', Aft K H F H' F' → ExcAt K F' d x.fs → E (x.c.v K) d H'
  | .stuck => False
def NSp (K : PySem.W.Frag) (n : Nat) (m : List D → FR (List D)) : Sp := fun vs H Q E => vs.length = n ∧ ∃ F ds, Pre K F H ∧ Reps K F vs ds ∧ GoodN K H F (m ds) Q E
/-- .. behind a call that may change the object at a -/
structure AftIo (K : PySem.W.Frag) (a : Addr) (sv : SV) (H F H' F' : Hp) : Prop where
  h : SmA K a H H'
  sub : Sm F' H'
  f : Sm F F'
  new : ∀ b o, F' b = some o → F b = some o ∨ Nn H b
  ft : Ftb F → Ftb F'
  at_ : SlotOk K H' F' (some (some (V.ref a))) sv
  own : sv.isHd = true
inductive IR where
  | ok (d : D) (sv : SV)
  | exc (x : Ex) (sv : SV)
  | stuck
def GoodI (K : PySem.W.Frag) (a : Addr) (H F : Hp) (r : IR) (Q : VK) (E : XK) : Prop := match r with
  | .ok d sv => ∀ v H' F', AftIo K a sv H F H' F' → Rep K F' v d → Q v H'
  | .exc x sv => ∀ d H' F', AftIo K a sv H F H' F' → ExcAt K F' d x.fs → E (x.c.v K) d H'
  | .stuck => False
/-- a def of n values, the first of which it may change -/
def ISp (K : PySem.W.Frag) (n : Nat) (m : SV → List D → IR) : Sp := fun vs H Q E => vs.length = n + 1 ∧ ∃ F a ws sv ds, vs = V.ref a :: ws ∧ Pre K F H ∧ SlotOk K H F (some (some (V.ref a))) sv ∧ sv.isHd = true ∧ Reps K F ws ds ∧ GoodI K a H F (m sv ds) Q E

inductive Fl where
  | nx
  | rt (d : D)
  | rn (ds : List D)
  | bk
  | ct
def GoodS (K : PySem.W.Frag) (G : Ent) (W : WX) (F : Hp) (r : R Fl) (Dn : Ends) : Prop := match r with
  | .ok .nx ρ => ∀ σ' H' F', Stt K G σ' H' F' ρ → Sm F F' → Dn.nx σ' H'
  | .ok (.rt d) ρ => ∀ v σ' H' F', Stt K G σ' H' F' ρ → Sm F F' → Rep K F' v d → Dn.rt v H'
  | .ok (.rn ds) ρ => ∀ a vs σ' H' F', Stt K ⟨G.H0, G.F0, G.io, (a, .lst vs) :: G.xt⟩ σ' H' F' ρ → Sm F F' → Reps K F' vs ds → Dn.rt (.ref a) H'
  | .ok .bk ρ => ∀ σ' H' F', Stt K G σ' H' F' ρ → Sm F F' → Dn.bk σ' H'
  | .ok .ct ρ => ∀ σ' H' F', Stt K G σ' H' F' ρ → Sm F F' → Dn.ct σ' H'
  | .exc x ρ => ∀ d σ' H' F', Stt K G σ' H' F' ρ → Sm F F' → ExcAt K F' d x.fs → W (x.c.v K) d σ' H'
  | .stuck => False
theorem GoodS.mono {K : PySem.W.Frag} {G : Ent} {W : WX} {F F1 : Hp} {r : R Fl} {Dn : Ends} (s : Sm F F1) (h : GoodS K G W F r Dn) : GoodS K G W F1 r Dn := by
  cases r with
  | ok a ρ =>
    cases a with
    | nx => exact fun σ' H' F' S q => h σ' H' F' S (s.tr q)
    | rt d => exact fun v σ' H' F' S q => h v σ' H' F' S (s.tr q)
    | rn ds => exact fun a vs σ' H' F' S q => h a vs σ' H' F' S (s.tr q)
    | bk => exact fun σ' H' F' S q => h σ' H' F' S (s.tr q)
    | ct => exact fun σ' H' F' S q => h σ' H' F' S (s.tr q)
  | exc x ρ => exact fun d σ' H' F' S q => h d σ' H' F' S (s.tr q)
  | stuck => exact h
/-- an expression's part of a statement -/
theorem GoodS.bind {α : Type} {K : PySem.W.Frag} {G : Ent} {W : WX} {σ : St} {F : Hp} {r : R α} {k : α → Ro → R Fl} {P : α → Ro → Hp → Hp → Prop} {Dn : Ends}
    (h : GoodS K G W F (r.bind k) Dn) (f : ∀ a ρ H' F', Stt K G σ H' F' ρ → Sm F F' → GoodS K G W F' (k a ρ) Dn → P a ρ H' F') : Good K G W σ F r P := by
  cases r with
  | ok a ρ => exact fun H' F' S q => f a ρ H' F' S q (GoodS.mono q h)
  | exc x ρ => exact fun d H' F' S q e => h d σ H' F' S q e
  | stuck => exact h
def AS (X : Cx) (W : WX) (st : Stmt) (f : M Fl) : Prop := ∃ t, PS X st t ∧ ∀ G σ H F ρ Dn, Stt X.K G σ H F ρ → GoodS X.K G W F (f ρ) Dn → t Dn σ H
def AB (X : Cx) (W : WX) (st : List Stmt) (f : M Fl) : Prop := ∃ t, PSs X st t ∧ ∀ G σ H F ρ Dn, Stt X.K G σ H F ρ → GoodS X.K G W F (f ρ) Dn → t Dn σ H

/-- a def's run over values -/
def runF (n : Nat) (g : M Fl) (ds : List D) : FR D := match g (ds.map .val ++ List.replicate (n - ds.length) .un) with
  | .ok .nx _ => .ok .non
  | .ok (.rt d) _ => .ok d
  | .exc x _ => .exc x
  | _ => .stuck
/-- .. of a def that gives a new list -/
def runN (n : Nat) (g : M Fl) (ds : List D) : FR (List D) := match g (ds.map .val ++ List.replicate (n - ds.length) .un) with
  | .ok (.rn xs) _ => .ok xs
  | .exc x _ => .exc x
  | _ => .stuck
def runI (n : Nat) (g : M Fl) (sv : SV) (ds : List D) : IR := match g (sv :: ds.map .val ++ List.replicate (n - (ds.length + 1)) .un) with
  | .ok .nx ρ => .ok .non (ρ.getD 0 .un)
  | .ok (.rt d) ρ => .ok d (ρ.getD 0 .un)
  | .exc x ρ => .exc x (ρ.getD 0 .un)
  | _ => .stuck
end PinS
section
variable {K : PySem.W.Frag}
theorem getD_app {α : Type} {l l' : List α} {i : Nat} {x : α} : (l ++ l').getD i x = if i < l.length then l.getD i x else l'.getD (i - l.length) x := by
  rw [List.getD_eq_getElem?_getD, List.getElem?_append]
  split <;> simp [List.getD_eq_getElem?_getD]
theorem get_app {α : Type} {l l' : List α} {i : Nat} : (l ++ l')[i]? = if i < l.length then l[i]? else l'[i - l.length]? := List.getElem?_append
theorem getD_rep {n i : Nat} : (List.replicate n SV.un).getD i .un = .un := by
  rw [List.getD_eq_getElem?_getD, List.getElem?_replicate]
  split <;> rfl
theorem stt_start {H F : Hp} {N : List Str} {vs : List V} {ds : List D} (s : Pre K F H) (r : Reps K F vs ds) : Stt K ⟨H, F, [], []⟩ (L2.start N vs) H F (ds.map .val ++ List.replicate (N.length - ds.length) SV.un) := by
  have le := r.length
  have noOwn : ∀ i, ((ds.map SV.val ++ List.replicate (N.length - ds.length) SV.un).getD i .un).isOwn = false := fun i => by
    rw [getD_app]
    split
    · rename_i h
      rw [List.length_map] at h
      rw [List.getD_eq_getElem?_getD, List.getElem?_map, List.getElem?_eq_getElem h]; rfl
    · rw [getD_rep]; rfl
  refine ⟨s.sub, s.ft, s.tb, fun a o h _ _ => h, Sm.refl, fun a o h => .inl h, by simp [L2.start, le], fun i => ?_, fun i j a h => ?_, fun i a h => ?_, fun i a h => by simp at h, fun p h => by simp at h, fun p h => by simp at h, .nil, fun i v h => absurd (show (i, v) ∈ ([] : List (Nat × V)) from h) (by simp), fun b o h => absurd (show (none : Option HO) = some o from h) (by simp)⟩
  · unfold L2.start
    rw [getD_app, get_app, List.length_map, List.length_map, le]
    by_cases h : i < ds.length
    · rw [if_pos h, if_pos h]
      obtain ⟨v, e, q⟩ := r.get i (List.getElem?_eq_getElem h)
      rw [List.getD_eq_getElem?_getD, List.getElem?_map, List.getElem?_map, List.getElem?_eq_getElem h, e]
      exact ⟨v, rfl, q⟩
    · rw [if_neg h, if_neg h, getD_rep]; trivial
  · rw [noOwn] at h; cases h
  · rw [noOwn] at h; cases h
theorem stt_startI {H F : Hp} {N : List Str} {a : Addr} {vs : List V} {sv : SV} {ds : List D} (s : Pre K F H) (q : SlotOk K H F (some (some (V.ref a))) sv) (hio : sv.isHd = true) (r : Reps K F vs ds) :
    Stt K ⟨H, F, [(0, a)], []⟩ (L2.start N (V.ref a :: vs)) H F (sv :: ds.map .val ++ List.replicate (N.length - (ds.length + 1)) SV.un) := by
  have le := r.length
  have noOwn : ∀ i, ((sv :: ds.map SV.val ++ List.replicate (N.length - (ds.length + 1)) SV.un).getD (i + 1) .un).isOwn = false := fun i => by
    show ((ds.map SV.val ++ List.replicate (N.length - (ds.length + 1)) SV.un).getD i .un).isOwn = false
    rw [getD_app]
    split
    · rename_i h
      rw [List.length_map] at h
      rw [List.getD_eq_getElem?_getD, List.getElem?_map, List.getElem?_eq_getElem h]; rfl
    · rw [getD_rep]; rfl
  refine ⟨s.sub, s.ft, s.tb, fun a o h _ _ => h, Sm.refl, fun a o h => .inl h, by simp [L2.start, le], fun i => ?_, fun i j b h h' e1 e2 => ?_, fun i b h e => ?_, fun i b h => ?_, fun p h => by simp at h, fun p h => by simp at h, .nil, fun i v h => absurd (show (i, v) ∈ ([] : List (Nat × V)) from h) (by simp), fun b o h => absurd (show (none : Option HO) = some o from h) (by simp)⟩
  · cases i with
    | zero => exact q
    | succ i =>
      show SlotOk K H F ((vs.map some ++ List.replicate (N.length - (vs.length + 1)) (none : Option V))[i]?) ((ds.map SV.val ++ List.replicate (N.length - (ds.length + 1)) SV.un).getD i .un)
      rw [getD_app, get_app, List.length_map, List.length_map, le]
      by_cases h : i < ds.length
      · rw [if_pos h, if_pos h]
        obtain ⟨v, e, q⟩ := r.get i (List.getElem?_eq_getElem h)
        rw [List.getD_eq_getElem?_getD, List.getElem?_map, List.getElem?_map, List.getElem?_eq_getElem h, e]
        exact ⟨v, rfl, q⟩
      · rw [if_neg h, if_neg h, getD_rep]; trivial
  · cases i with
    | succ i => rw [noOwn] at h; cases h
    | zero =>
      cases j with
      | succ j => rw [noOwn] at h'; cases h'
      | zero => rfl
  · cases i with
    | succ i => rw [noOwn] at h; cases h
    | zero =>
      have e' : some (some (V.ref a)) = some (some (V.ref b)) := e
      cases e'
      exact .inr (by simp)
  · have e : (i, b) = (0, a) := by simpa using h
    cases e
    exact ⟨rfl, hio⟩
variable {P : Program} {w : World} {mg : Str → Option Value} {base : Heap}
/-- THE RULE for a def of values -/
theorem fn_val {x qual : Str} {params : Arguments} {body : List Stmt} {scope : Scope} {dvs : List V} {kws : List (Str × V)} {f : Addr} {fd : FuncData} {N ps : List Str} {k n : Nat} {g : M Fl} (Fn : FunD K x qual params body scope dvs kws f fd) (S : FnScope N ps scope) (hn : n = ps.length)
    (hb : ∀ (cdv : Value) (_ : codV K f = cdv) (A : Around) (outer : List Env) (s : Shared) (H : Hp) (E : XK), RoomG k (A.deeper (envOfC qual scope s.heap.objs.size f cdv)) →
      AB (cxOf (L2.CX P w) P w K mg base N qual scope f cdv A outer s H E) (fun c d _ H => E c d H) body g) :
    FnG P w K mg base (k + 1) f fd ps (PSp K n (runF N.length g)) := by
  refine fng_of Fn S (fun vs H Q E h => h.1.trans hn) fun cdv hcd A outer s H vs Q E hr h => ?_
  obtain ⟨hl, F, ds, sF, r, hg⟩ := h
  obtain ⟨t, ht, q⟩ := hb cdv hcd A outer s H E hr
  refine ⟨t, ht, q ⟨H, F, [], []⟩ _ H F _ _ (stt_start sF r) ?_⟩
  unfold runF at hg
  have aft : ∀ {σ' : St} {H' F' : Hp} {ρ : Ro}, Stt K ⟨H, F, [], []⟩ σ' H' F' ρ → Aft K H F H' F' := fun S => ⟨⟨fun a o e n => S.same a o e (fun i z => by simp at z) n, fun _ => S.tb⟩, S.sub, S.ext, S.new, fun _ => S.ft⟩
  cases e : g (ds.map SV.val ++ List.replicate (N.length - ds.length) SV.un) with
  | ok a ρ =>
    rw [e] at hg
    cases a with
    | nx => exact fun σ' H' F' S q => hg .non H' F' (aft S) .non
    | rt d => exact fun v σ' H' F' S q rv => hg v H' F' (aft S) rv
    | rn ds => exact hg.elim
    | bk => exact hg.elim
    | ct => exact hg.elim
  | exc x ρ =>
    rw [e] at hg
    exact fun d σ' H' F' S q rv => hg d H' F' (aft S) rv
  | stuck => rw [e] at hg; exact hg
/-- THE RULE for a def that gives a new list -/
theorem fn_new {x qual : Str} {params : Arguments} {body : List Stmt} {scope : Scope} {dvs : List V} {kws : List (Str × V)} {f : Addr} {fd : FuncData} {N ps : List Str} {k n : Nat} {g : M Fl} (Fn : FunD K x qual params body scope dvs kws f fd) (S : FnScope N ps scope) (hn : n = ps.length)
    (hb : ∀ (cdv : Value) (_ : codV K f = cdv) (A : Around) (outer : List Env) (s : Shared) (H : Hp) (E : XK), RoomG k (A.deeper (envOfC qual scope s.heap.objs.size f cdv)) →
      AB (cxOf (L2.CX P w) P w K mg base N qual scope f cdv A outer s H E) (fun c d _ H => E c d H) body g) :
    FnG P w K mg base (k + 1) f fd ps (NSp K n (runN N.length g)) := by
  refine fng_of Fn S (fun vs H Q E h => h.1.trans hn) fun cdv hcd A outer s H vs Q E hr h => ?_
  obtain ⟨hl, F, ds, sF, r, hg⟩ := h
  obtain ⟨t, ht, q⟩ := hb cdv hcd A outer s H E hr
  refine ⟨t, ht, q ⟨H, F, [], []⟩ _ H F _ _ (stt_start sF r) ?_⟩
  unfold runN at hg
  have aft : ∀ {σ' : St} {H' F' : Hp} {ρ : Ro} {xt : List (Addr × HO)}, Stt K ⟨H, F, [], xt⟩ σ' H' F' ρ → Aft K H F H' F' := fun S => ⟨⟨fun a o e n => S.same a o e (fun i z => by simp at z) n, fun _ => S.tb⟩, S.sub, S.ext, S.new, fun _ => S.ft⟩
  cases e : g (ds.map SV.val ++ List.replicate (N.length - ds.length) SV.un) with
  | ok a ρ =>
    rw [e] at hg
    cases a with
    | nx => exact hg.elim
    | rt d => exact hg.elim
    | rn xs =>
      refine fun a vs σ' H' F' S q rv => hg a vs H' F' (aft S) ?_ rv
      obtain ⟨h1, h2, h3, _⟩ := S.xt (a, .lst vs) (List.mem_cons_self ..)
      exact ⟨h1, h2, h3⟩
    | bk => exact hg.elim
    | ct => exact hg.elim
  | exc x ρ =>
    rw [e] at hg
    exact fun d σ' H' F' S q rv => hg d H' F' (aft S) rv
  | stuck => rw [e] at hg; exact hg
/-- THE RULE for a def that may change its first parameter -/
theorem fn_io {x qual : Str} {params : Arguments} {body : List Stmt} {scope : Scope} {dvs : List V} {kws : List (Str × V)} {f : Addr} {fd : FuncData} {N ps : List Str} {k n : Nat} {g : M Fl} (Fn : FunD K x qual params body scope dvs kws f fd) (S : FnScope N ps scope) (hn : n + 1 = ps.length)
    (hb : ∀ (cdv : Value) (_ : codV K f = cdv) (A : Around) (outer : List Env) (s : Shared) (H : Hp) (E : XK), RoomG k (A.deeper (envOfC qual scope s.heap.objs.size f cdv)) →
      AB (cxOf (L2.CX P w) P w K mg base N qual scope f cdv A outer s H E) (fun c d _ H => E c d H) body g) :
    FnG P w K mg base (k + 1) f fd ps (ISp K n (runI N.length g)) := by
  refine fng_of Fn S (fun vs H Q E h => h.1.trans hn) fun cdv hcd A outer s H vs Q E hr h => ?_
  obtain ⟨hl, F, a, ws, sv, ds, rfl, sF, qs, hio, r, hg⟩ := h
  obtain ⟨t, ht, q⟩ := hb cdv hcd A outer s H E hr
  refine ⟨t, ht, q ⟨H, F, [(0, a)], []⟩ _ H F _ _ (stt_startI sF qs hio r) ?_⟩
  unfold runI at hg
  have aft : ∀ {σ' : St} {H' F' : Hp} {ρ : Ro}, Stt K ⟨H, F, [(0, a)], []⟩ σ' H' F' ρ → AftIo K a (ρ.getD 0 .un) H F H' F' := fun {σ' H' F' ρ} S => by
    obtain ⟨e1, e2⟩ := S.io 0 a (by simp)
    refine ⟨⟨fun b o ne e n => S.same b o e (fun i z => ne ?_) n, fun _ => S.tb⟩, S.sub, S.ext, S.new, fun _ => S.ft, ?_, e2⟩
    · have : (i, b) = (0, a) := by simpa using z
      cases this; rfl
    · have q := S.at_ 0
      rw [e1] at q; exact q
  cases e : g (sv :: ds.map SV.val ++ List.replicate (N.length - (ds.length + 1)) SV.un) with
  | ok a ρ =>
    rw [e] at hg
    cases a with
    | nx => exact fun σ' H' F' S q => hg .non H' F' (aft S) .non
    | rt d => exact fun v σ' H' F' S q rv => hg v H' F' (aft S) rv
    | rn ds => exact hg.elim
    | bk => exact hg.elim
    | ct => exact hg.elim
  | exc x ρ =>
    rw [e] at hg
    exact fun d σ' H' F' S q rv => hg d H' F' (aft S) rv
  | stuck => rw [e] at hg; exact hg
end
end Mr
namespace Mr
open PySem PySem.Spec PyProof.Rows L2
variable [Lam] [Pins]

def mVar (i : Nat) : M D := fun ρ => match ρ.getD i .un with
  | .val d => .ok d ρ
  | .own false xs => .ok (.lst xs) (ρ.set i (.val (.lst xs)))
  | .dic false ks xs => .ok (.dct ks xs) (ρ.set i (.val (.dct ks xs)))
  | _ => .stuck
def mC (d : D) : M D := fun ρ => .ok d ρ
def m2 (g : D → D → FR D) (a b : M D) : M D := fun ρ => (a ρ).bind fun x ρ => (b ρ).bind fun y ρ => (g x y).lift ρ
def m1 (g : D → FR D) (a : M D) : M D := fun ρ => (a ρ).bind fun x ρ => (g x).lift ρ
def mL (g : List D → FR D) (a : M (List D)) : M D := fun ρ => (a ρ).bind fun xs ρ => (g xs).lift ρ
def mNil : M (List D) := fun ρ => .ok [] ρ
def mCons (a : M D) (r : M (List D)) : M (List D) := fun ρ => (a ρ).bind fun x ρ => (r ρ).bind fun xs ρ => .ok (x :: xs) ρ
def mIf (t : M Bool) (a b : M D) : M D := fun ρ => (t ρ).bind fun c ρ => if c = true then a ρ else b ρ
def mAnd (a b : M D) : M D := fun ρ => (a ρ).bind fun x ρ => match x with
  | .bl true => b ρ
  | .bl false => .ok (.bl false) ρ
  | _ => .stuck
def mOr (a b : M D) : M D := fun ρ => (a ρ).bind fun x ρ => match x with
  | .bl true => .ok (.bl true) ρ
  | .bl false => b ρ
  | _ => .stuck
def notD : D → FR D
  | .bl b => .ok (.bl (!b))
  | _ => .stuck
/-- a < b < c -/
def mChain (g h : D → D → FR D) (a b c : M D) : M D := fun ρ => (a ρ).bind fun x ρ => (b ρ).bind fun y ρ => ((g x y).lift ρ).bind fun z ρ => match z with
  | .bl true => (c ρ).bind fun w ρ => (h y w).lift ρ
  | .bl false => .ok (.bl false) ρ
  | _ => .stuck
def tOf (a : M D) : M Bool := fun ρ => (a ρ).bind fun x ρ => match x with
  | .bl b => .ok b ρ
  | _ => .stuck
def tNot (a : M Bool) : M Bool := fun ρ => (a ρ).bind fun b ρ => .ok (!b) ρ
def tAnd (a b : M Bool) : M Bool := fun ρ => (a ρ).bind fun c ρ => if c = true then b ρ else .ok false ρ
def tOr (a b : M Bool) : M Bool := fun ρ => (a ρ).bind fun c ρ => if c = true then .ok true ρ else b ρ

section
variable {X : Cx} {W : WX}
theorem AE.var {i : Nat} {x : Str} {pos : Pos} (h : PE X (.Name x pos) (tVar i)) : AE X W (.Name x pos) (mVar i) := by
  refine ⟨_, h, fun G σ H F ρ Q S hg => ?_⟩
  unfold mVar at hg
  have q := S.at_ i
  cases e : ρ.getD i .un with
  | un => rw [e] at hg; exact hg.elim
  | val d =>
    rw [e] at hg q
    obtain ⟨v, e1, r⟩ := q
    exact ⟨v, e1, hg H F S Sm.refl v r⟩
  | own p xs =>
    cases p with
    | true => rw [e] at hg; exact hg.elim
    | false =>
      obtain ⟨a, F', e1, S', sF, r⟩ := S.freeze e
      rw [e] at hg
      exact ⟨_, e1, hg H F' S' sF _ r⟩
  | ins p C ns ds => rw [e] at hg; exact hg.elim
  | dic p ks ds =>
    cases p with
    | true => rw [e] at hg; exact hg.elim
    | false =>
      obtain ⟨a, F', e1, S', sF, r⟩ := S.freezeD e
      rw [e] at hg
      exact ⟨_, e1, hg H F' S' sF _ r⟩
  | pin => rw [e] at hg; exact hg.elim
theorem AE.cst {e : Expr} {v : V} {d : D} (h : PE X e (tC v)) (r : ∀ K H, Rep K H v d) : AE X W e (mC d) :=
  ⟨_, h, fun G σ H F ρ Q S hg => hg H F S Sm.refl v (r _ _)⟩
theorem AE.int {i : Int} {j : Nat} {pos : Pos} : AE X W (.Constant (.int i) j pos) (mC (.int i)) := .cst pe_int fun _ _ => .int i
theorem AE.str {x : Str} {j : Nat} {pos : Pos} : AE X W (.Constant (.str x) j pos) (mC (.str x)) := .cst pe_str fun _ _ => .str x
theorem AE.bl {b : Bool} {j : Nat} {pos : Pos} : AE X W (.Constant (.bool b) j pos) (mC (.bl b)) := .cst pe_bl fun _ _ => .bl b
theorem AE.non {j : Nat} {pos : Pos} : AE X W (.Constant .none j pos) (mC .non) := .cst pe_non fun _ _ => .non
theorem AE.gint {x : Str} {i : Int} {t : Tok} {pos : Pos} (hg : Gl X x) (hm : X.mg x = some (.int i t)) (hd : (x == ("__debug__" : Str)) = false := by decide) : AE X W (.Name x pos) (mC (.int i)) := .cst (v := .int i) (pe_glob hg hm ⟨t, rfl⟩ hd) fun _ _ => .int i
/-- a two-place operation does g -/
def OA (X : Cx) (W : WX) (f : Value → Value → Sem Value) (g : D → D → FR D) : Prop :=
  ∃ r : R2, OpR X f r ∧ ∀ G σ H F ρ x y dx dy Q, Stt X.K G σ H F ρ → Rep X.K F x dx → Rep X.K F y dy → Good X.K G W σ F ((g dx dy).lift ρ) (PD X.K Q) → r x y H Q
def UA (X : Cx) (W : WX) (f : Value → Sem Value) (g : D → FR D) : Prop :=
  ∃ r : V → Hp → VK → Prop, UnR X f r ∧ ∀ G σ H F ρ x dx Q, Stt X.K G σ H F ρ → Rep X.K F x dx → Good X.K G W σ F ((g dx).lift ρ) (PD X.K Q) → r x H Q
/-- a call of a built-in value does g -/
def CA (X : Cx) (W : WX) (f : Value) (g : List D → FR D) : Prop :=
  ∃ r : List V → Hp → VK → Prop, CallR X f r ∧ ∀ G σ H F ρ vs ds Q, Stt X.K G σ H F ρ → Reps X.K F vs ds → Good X.K G W σ F ((g ds).lift ρ) (PD X.K Q) → r vs H Q
variable {a b c : Expr} {fa fb fc : M D} {pos : Pos}
theorem AE.bin {op : Operator} {g : D → D → FR D} (ho : OA X W (binaryOp op) g) (ha : AE X W a fa) (hb : AE X W b fb) : AE X W (.BinOp a op b pos) (m2 g fa fb) := by
  obtain ⟨r, h1, h2⟩ := ho
  obtain ⟨ta, pa, qa⟩ := ha
  obtain ⟨tb, pb, qb⟩ := hb
  refine ⟨_, pe_op h1 pa pb, fun G σ H F ρ Q S hg => qa G σ H F ρ _ S (hg.bind fun dx ρ1 H1 F1 S1 s1 g1 v r1 => qb G σ H1 F1 ρ1 _ S1 (g1.bind fun dy ρ2 H2 F2 S2 s2 g2 u r2 => ?_))⟩
  exact h2 G σ H2 F2 ρ2 v u dx dy Q S2 (r1.mono s2) r2 g2
theorem AE.cmp {op : CmpOp} {g : D → D → FR D} (ho : OA X W (compareOp op) g) (ha : AE X W a fa) (hb : AE X W b fb) (hm : behindInMarks op b = false) : AE X W (.Compare a [op] [b] pos) (m2 g fa fb) := by
  obtain ⟨r, h1, h2⟩ := ho
  obtain ⟨ta, pa, qa⟩ := ha
  obtain ⟨tb, pb, qb⟩ := hb
  refine ⟨_, pe_cmpR h1 pa pb hm, fun G σ H F ρ Q S hg => qa G σ H F ρ _ S (hg.bind fun dx ρ1 H1 F1 S1 s1 g1 v r1 => qb G σ H1 F1 ρ1 _ S1 (g1.bind fun dy ρ2 H2 F2 S2 s2 g2 u r2 => ?_))⟩
  exact h2 G σ H2 F2 ρ2 v u dx dy Q S2 (r1.mono s2) r2 g2
theorem tOf_bool {Q : Bool → Hp → Prop} {K : PySem.W.Frag} {G : Ent} {σ : St} {F : Hp} {r : R D} (h : Good K G W σ F (r.bind fun x ρ => match x with | .bl b => .ok b ρ | _ => .stuck) (PB Q)) : Good K G W σ F r (PD K fun v H => ∃ k, v = .bl k ∧ Q k H) :=
  h.bind fun d ρ1 H1 F1 S1 s1 g1 v r1 => by
    cases d with
    | bl b => cases r1; exact ⟨b, rfl, g1 H1 F1 S1 Sm.refl⟩
    | _ => exact g1.elim
theorem AT.cmp {op : CmpOp} {g : D → D → FR D} (ho : OA X W (compareOp op) g) (ha : AE X W a fa) (hb : AE X W b fb) (hm : behindInMarks op b = false) : AT X W (.Compare a [op] [b] pos) (tOf (m2 g fa fb)) := by
  obtain ⟨r, h1, h2⟩ := ho
  obtain ⟨ta, pa, qa⟩ := ha
  obtain ⟨tb, pb, qb⟩ := hb
  refine ⟨_, pt_cmpR h1 pa pb hm, fun G σ H F ρ Q S hg => qa G σ H F ρ _ S ((tOf_bool hg).bind fun dx ρ1 H1 F1 S1 s1 g1 v r1 => qb G σ H1 F1 ρ1 _ S1 (g1.bind fun dy ρ2 H2 F2 S2 s2 g2 u r2 => ?_))⟩
  exact h2 G σ H2 F2 ρ2 v u dx dy _ S2 (r1.mono s2) r2 g2
theorem AE.chain {op op' : CmpOp} {g h : D → D → FR D} (ho : OA X W (compareOp op) g) (ho' : OA X W (compareOp op') h) (ha : AE X W a fa) (hb : AE X W b fb) (hc : AE X W c fc) (hm : lastMarks [op, op'] [b, c] = false := by with_unfolding_all rfl) :
    AE X W (.Compare a [op, op'] [b, c] pos) (mChain g h fa fb fc) := by
  obtain ⟨r, h1, h2⟩ := ho
  obtain ⟨r', h3, h4⟩ := ho'
  obtain ⟨ta, pa, qa⟩ := ha
  obtain ⟨tb, pb, qb⟩ := hb
  obtain ⟨tc, pc, qc⟩ := hc
  refine ⟨_, pe_chain h1 h3 pa pb pc hm, fun G σ H F ρ Q S hg => qa G σ H F ρ _ S (hg.bind fun dx ρ1 H1 F1 S1 s1 g1 v r1 => qb G σ H1 F1 ρ1 _ S1 (g1.bind fun dy ρ2 H2 F2 S2 s2 g2 u r2 => ?_))⟩
  refine h2 G σ H2 F2 ρ2 v u dx dy _ S2 (r1.mono s2) r2 (g2.bind fun dz ρ3 H3 F3 S3 s3 g3 z r3 => ?_)
  cases dz with
  | bl k =>
    cases r3
    refine ⟨k, rfl, ?_⟩
    cases k with
    | true =>
      rw [if_pos rfl]
      exact qc G σ H3 F3 ρ3 _ S3 (g3.bind fun dw ρ4 H4 F4 S4 s4 g4 w r4 => h4 G σ H4 F4 ρ4 u w dy dw Q S4 (r2.mono (s3.tr s4)) r4 g4)
    | false =>
      rw [if_neg Bool.false_ne_true]
      exact g3 H3 F3 S3 Sm.refl _ (.bl false)
  | _ => exact g3.elim
theorem AT.chain {op op' : CmpOp} {g h : D → D → FR D} (ho : OA X W (compareOp op) g) (ho' : OA X W (compareOp op') h) (ha : AE X W a fa) (hb : AE X W b fb) (hc : AE X W c fc) (hm : lastMarks [op, op'] [b, c] = false := by with_unfolding_all rfl) :
    AT X W (.Compare a [op, op'] [b, c] pos) (tOf (mChain g h fa fb fc)) := by
  obtain ⟨r, h1, h2⟩ := ho
  obtain ⟨r', h3, h4⟩ := ho'
  obtain ⟨ta, pa, qa⟩ := ha
  obtain ⟨tb, pb, qb⟩ := hb
  obtain ⟨tc, pc, qc⟩ := hc
  refine ⟨_, pt_chain h1 h3 pa pb pc hm, fun G σ H F ρ Q S hg => qa G σ H F ρ _ S ((tOf_bool hg).bind fun dx ρ1 H1 F1 S1 s1 g1 v r1 => qb G σ H1 F1 ρ1 _ S1 (g1.bind fun dy ρ2 H2 F2 S2 s2 g2 u r2 => ?_))⟩
  refine h2 G σ H2 F2 ρ2 v u dx dy _ S2 (r1.mono s2) r2 (g2.bind fun dz ρ3 H3 F3 S3 s3 g3 z r3 => ?_)
  cases dz with
  | bl k =>
    cases r3
    refine ⟨k, rfl, ?_⟩
    cases k with
    | true =>
      rw [if_pos rfl]
      exact qc G σ H3 F3 ρ3 _ S3 (g3.bind fun dw ρ4 H4 F4 S4 s4 g4 w r4 => h4 G σ H4 F4 ρ4 u w dy dw _ S4 (r2.mono (s3.tr s4)) r4 g4)
    | false =>
      rw [if_neg Bool.false_ne_true]
      exact g3 H3 F3 S3 Sm.refl _ (.bl false)
  | _ => exact g3.elim
theorem AE.un {op : UnaryOp} {g : D → FR D} (ho : UA X W (unaryOp op) g) (ha : AE X W a fa) : AE X W (.UnaryOp op a pos) (m1 g fa) := by
  obtain ⟨r, h1, h2⟩ := ho
  obtain ⟨ta, pa, qa⟩ := ha
  exact ⟨_, pe_un h1 pa, fun G σ H F ρ Q S hg => qa G σ H F ρ _ S (hg.bind fun dx ρ1 H1 F1 S1 s1 g1 v r1 => h2 G σ H1 F1 ρ1 v dx Q S1 r1 g1)⟩
theorem AE.not (ha : AE X W a fa) : AE X W (.UnaryOp .Not a pos) (m1 notD fa) := by
  obtain ⟨ta, pa, qa⟩ := ha
  refine ⟨_, pe_not pa, fun G σ H F ρ Q S hg => qa G σ H F ρ _ S (hg.bind fun dx ρ1 H1 F1 S1 s1 g1 v r1 => ?_)⟩
  cases dx with
  | bl k => cases r1; exact ⟨k, rfl, g1 H1 F1 S1 Sm.refl _ (.bl _)⟩
  | _ => exact g1.elim
theorem AE.one {op : BoolOp} (ha : AE X W a fa) : AE X W (.BoolOp op [a] pos) fa := by
  obtain ⟨ta, pa, qa⟩ := ha
  exact ⟨_, pe_one pa, qa⟩
theorem AE.and {rest : List Expr} (ha : AE X W a fa) (hb : AE X W (.BoolOp .And (b :: rest) pos) fb) : AE X W (.BoolOp .And (a :: b :: rest) pos) (mAnd fa fb) := by
  obtain ⟨ta, pa, qa⟩ := ha
  obtain ⟨tb, pb, qb⟩ := hb
  refine ⟨_, pe_and pa pb, fun G σ H F ρ Q S hg => qa G σ H F ρ _ S (hg.bind fun dx ρ1 H1 F1 S1 s1 g1 v r1 => ?_)⟩
  cases dx with
  | bl k =>
    cases r1
    refine ⟨k, rfl, ?_⟩
    cases k with
    | true => rw [if_pos rfl]; exact qb G σ H1 F1 ρ1 Q S1 g1
    | false => rw [if_neg Bool.false_ne_true]; exact g1 H1 F1 S1 Sm.refl _ (.bl false)
  | _ => exact g1.elim
theorem AE.or {rest : List Expr} (ha : AE X W a fa) (hb : AE X W (.BoolOp .Or (b :: rest) pos) fb) : AE X W (.BoolOp .Or (a :: b :: rest) pos) (mOr fa fb) := by
  obtain ⟨ta, pa, qa⟩ := ha
  obtain ⟨tb, pb, qb⟩ := hb
  refine ⟨_, pe_or pa pb, fun G σ H F ρ Q S hg => qa G σ H F ρ _ S (hg.bind fun dx ρ1 H1 F1 S1 s1 g1 v r1 => ?_)⟩
  cases dx with
  | bl k =>
    cases r1
    refine ⟨k, rfl, ?_⟩
    cases k with
    | true => rw [if_pos rfl]; exact g1 H1 F1 S1 Sm.refl _ (.bl true)
    | false => rw [if_neg Bool.false_ne_true]; exact qb G σ H1 F1 ρ1 Q S1 g1
  | _ => exact g1.elim
variable {ta tb : M Bool}
theorem AT.val (ha : AE X W a fa) (he : ∀ whole, isTrue a X.env whole = (do let v ← whole; standAt a.pos; holding [v] (truthy v)) := by intro _; rfl) : AT X W a (tOf fa) := by
  obtain ⟨t, pa, qa⟩ := ha
  exact ⟨_, pt_val pa he, fun G σ H F ρ Q S hg => qa G σ H F ρ _ S (tOf_bool hg)⟩
theorem AW.pt (h : AW X W a ta) : AT X W a ta := by
  obtain ⟨t, pa, qa⟩ := h
  exact ⟨_, pa.pt, qa⟩
theorem AT.not (ha : AT X W a ta) : AT X W (.UnaryOp .Not a pos) (tNot ta) := by
  obtain ⟨t, pa, qa⟩ := ha
  exact ⟨_, pt_not pa, fun G σ H F ρ Q S hg => qa G σ H F ρ _ S (hg.bind fun k ρ1 H1 F1 S1 s1 g1 => g1 H1 F1 S1 Sm.refl)⟩
theorem AW.and1 (ha : AT X W a ta) : AW X W (.BoolOp .And [a] pos) ta := by
  obtain ⟨t, pa, qa⟩ := ha
  exact ⟨_, pw_and1 pa, qa⟩
theorem AW.or1 (ha : AT X W a ta) : AW X W (.BoolOp .Or [a] pos) ta := by
  obtain ⟨t, pa, qa⟩ := ha
  exact ⟨_, pw_or1 pa, qa⟩
theorem AW.and {rest : List Expr} (ha : AT X W a ta) (hb : AW X W (.BoolOp .And (b :: rest) pos) tb) : AW X W (.BoolOp .And (a :: b :: rest) pos) (tAnd ta tb) := by
  obtain ⟨t, pa, qa⟩ := ha
  obtain ⟨u, pb, qb⟩ := hb
  refine ⟨_, pw_and pa pb, fun G σ H F ρ Q S hg => qa G σ H F ρ _ S (hg.bind fun k ρ1 H1 F1 S1 s1 g1 => ?_)⟩
  show if k = true then u σ H1 Q else Q false H1
  cases k with
  | true => rw [if_pos rfl]; exact qb G σ H1 F1 ρ1 Q S1 g1
  | false => rw [if_neg Bool.false_ne_true]; exact g1 H1 F1 S1 Sm.refl
theorem AW.or {rest : List Expr} (ha : AT X W a ta) (hb : AW X W (.BoolOp .Or (b :: rest) pos) tb) : AW X W (.BoolOp .Or (a :: b :: rest) pos) (tOr ta tb) := by
  obtain ⟨t, pa, qa⟩ := ha
  obtain ⟨u, pb, qb⟩ := hb
  refine ⟨_, pw_or pa pb, fun G σ H F ρ Q S hg => qa G σ H F ρ _ S (hg.bind fun k ρ1 H1 F1 S1 s1 g1 => ?_)⟩
  show if k = true then Q true H1 else u σ H1 Q
  cases k with
  | true => rw [if_pos rfl]; exact g1 H1 F1 S1 Sm.refl
  | false => rw [if_neg Bool.false_ne_true]; exact qb G σ H1 F1 ρ1 Q S1 g1
theorem AE.ifx (hc : AT X W c ta) (ha : AE X W a fa) (hb : AE X W b fb) : AE X W (.IfExp c a b pos) (mIf ta fa fb) := by
  obtain ⟨t, pc, qc⟩ := hc
  obtain ⟨ua, pa, qa⟩ := ha
  obtain ⟨ub, pb, qb⟩ := hb
  refine ⟨_, pe_ifExp pc pa pb, fun G σ H F ρ Q S hg => qc G σ H F ρ _ S (hg.bind fun k ρ1 H1 F1 S1 s1 g1 => ?_)⟩
  show if k = true then ua σ H1 Q else ub σ H1 Q
  cases k with
  | true => rw [if_pos rfl]; exact qa G σ H1 F1 ρ1 Q S1 g1
  | false => rw [if_neg Bool.false_ne_true]; exact qb G σ H1 F1 ρ1 Q S1 g1
variable {es : List Expr} {fs : M (List D)}
theorem AA.nil : AA X W [] mNil := ⟨_, pa_nil, fun G σ H F ρ Q S hg => hg H F S Sm.refl [] .nil⟩
theorem AA.cons (ha : AE X W a fa) (hr : AA X W es fs) (hs : starEach (a :: es) X.env = (false, eval a X.env) :: starEach es X.env := by rfl) : AA X W (a :: es) (mCons fa fs) := by
  obtain ⟨ta, pa, qa⟩ := ha
  obtain ⟨tr, pr, qr⟩ := hr
  refine ⟨_, pa_cons pa pr hs, fun G σ H F ρ Q S hg => qa G σ H F ρ _ S (hg.bind fun d ρ1 H1 F1 S1 s1 g1 v r1 => qr G σ H1 F1 ρ1 _ S1 (g1.bind fun ds ρ2 H2 F2 S2 s2 g2 vs r2 => ?_))⟩
  exact g2 H2 F2 S2 Sm.refl _ (.cons (r1.mono s2) r2)
def tupD (ds : List D) : FR D := if ds.length ≤ sizeLine then .ok (.tup ds) else .stuck
def lstD (ds : List D) : FR D := if ds.length ≤ sizeLine then .ok (.lst ds) else .stuck
theorem newTup {G : Ent} {σ : St} {H F : Hp} {ρ : Ro} {vs : List V} {ds : List D} {Q : VK} {p : Addr} (S : Stt X.K G σ H F ρ) (r : Reps X.K F vs ds) (g : Good X.K G W σ F (.ok (.tup ds) ρ) (PD X.K Q)) (hp : H p = none) : Q (.ref p) (upd H p (.tup vs)) :=
  g _ _ (S.alloc hp) (S.allocF hp) _ (.tup (.of upd_same) (r.mono (S.allocF hp)))
theorem newLst {G : Ent} {σ : St} {H F : Hp} {ρ : Ro} {vs : List V} {ds : List D} {Q : VK} {p : Addr} (S : Stt X.K G σ H F ρ) (r : Reps X.K F vs ds) (g : Good X.K G W σ F (.ok (.lst ds) ρ) (PD X.K Q)) (hp : H p = none) : Q (.ref p) (upd H p (.lst vs)) :=
  g _ _ (S.alloc hp) (S.allocF hp) _ (.lst upd_same (r.mono (S.allocF hp)))
theorem AE.tup {k : Nat} (h : AA X W es fs) : AE X W (.Tuple es k pos) (mL tupD fs) := by
  obtain ⟨t, p, q⟩ := h
  refine ⟨_, pe_tup p, fun G σ H F ρ Q S hg => q G σ H F ρ _ S (hg.bind fun ds ρ1 H1 F1 S1 s1 g1 vs r1 => ?_)⟩
  unfold tupD at g1
  by_cases hz : ds.length ≤ sizeLine
  · rw [if_pos hz] at g1
    exact ⟨by rw [r1.length]; exact hz, fun p hp => newTup S1 r1 g1 hp⟩
  · rw [if_neg hz] at g1; exact g1.elim
theorem AE.lst (h : AA X W es fs) : AE X W (.List es pos) (mL lstD fs) := by
  obtain ⟨t, p, q⟩ := h
  refine ⟨_, pe_lst p, fun G σ H F ρ Q S hg => q G σ H F ρ _ S (hg.bind fun ds ρ1 H1 F1 S1 s1 g1 vs r1 => ?_)⟩
  unfold lstD at g1
  by_cases hz : ds.length ≤ sizeLine
  · rw [if_pos hz] at g1
    exact ⟨by rw [r1.length]; exact hz, fun p hp => newLst S1 r1 g1 hp⟩
  · rw [if_neg hz] at g1; exact g1.elim
theorem AE.blt {x : Str} {p : Pos} {id : String} {g : List D → FR D} (hc : CA X W (.builtin id) g) (hg : Gl X x) (hm : X.mg x = none) (hv : bootBuiltins x = some (.builtin id)) (ha : AA X W (a :: es) fs) (hn : x ≠ "__name__" := by decide) (hdb : (x == ("__debug__" : Str)) = false := by decide)
    (he : starEach (a :: es) X.env = (false, eval a X.env) :: starEach es X.env := by rfl) (hpl : (backTo pos (starEach es X.env)).any (·.1) = false := by rfl) : AE X W (.Call (.Name x p) (a :: es) [] pos) (mL g fs) := by
  obtain ⟨r, h1, h2⟩ := hc
  obtain ⟨t, pa, qa⟩ := ha
  exact ⟨_, pe_callB h1 hg hm hv pa hn hdb he hpl, fun G σ H F ρ Q S hgd => qa G σ H F ρ _ S (hgd.bind fun ds ρ1 H1 F1 S1 s1 g1 vs r1 => h2 G σ H1 F1 ρ1 vs ds Q S1 r1 g1)⟩
theorem AE.bty {x : Str} {p : Pos} {T : String} {g : List D → FR D} (hc : CA X W (.type T) g) (hg : Gl X x) (hm : X.mg x = none) (hv : bootBuiltins x = some (.type T)) (ha : AA X W (a :: es) fs) (hn : x ≠ "__name__" := by decide) (hdb : (x == ("__debug__" : Str)) = false := by decide)
    (he : starEach (a :: es) X.env = (false, eval a X.env) :: starEach es X.env := by rfl) (hpl : (backTo pos (starEach es X.env)).any (·.1) = false := by rfl) : AE X W (.Call (.Name x p) (a :: es) [] pos) (mL g fs) := by
  obtain ⟨r, h1, h2⟩ := hc
  obtain ⟨t, pa, qa⟩ := ha
  exact ⟨_, pe_callTy h1 hg hm hv pa hn hdb he hpl, fun G σ H F ρ Q S hgd => qa G σ H F ρ _ S (hgd.bind fun ds ρ1 H1 F1 S1 s1 g1 vs r1 => h2 G σ H1 F1 ρ1 vs ds Q S1 r1 g1)⟩
end
end Mr
namespace Mr
open PySem PySem.Spec PyProof.Rows L2
variable [Lam] [Pins]

mutual
def py : D → PyData
  | .non => .none
  | .bl b => .bool b
  | .int i => .int i
  | .str x => .str x
  | .tup xs => .tuple (pys xs)
  | .lst xs => .list (pys xs)
  | .frz xs => .list (pys xs)
  | .obj _ _ _ => .none
  | .dct _ _ => .none
  | .opq _ => .none
  | .any => .none
def pys : List D → List PyData
  | [] => []
  | x :: xs => py x :: pys xs
end
mutual
/-- plain data, at most so deep -/
def okD : Nat → D → Bool
  | _, .non => true
  | _, .bl _ => true
  | _, .int _ => true
  | _, .str _ => true
  | n, .tup xs => match n with | 0 => false | n + 1 => okDs n xs
  | n, .lst xs => match n with | 0 => false | n + 1 => okDs n xs
  | n, .frz xs => match n with | 0 => false | n + 1 => okDs n xs
  | _, .obj _ _ _ => false
  | _, .dct _ _ => false
  | _, .opq _ => false
  | _, .any => false
def okDs : Nat → List D → Bool
  | _, [] => true
  | n, x :: xs => okD n x && okDs n xs
end
mutual
theorem okD_py : ∀ (n : Nat) (d : D), okD n d = true → (py d).plain = true ∧ (py d).depth ≤ n
  | _, .non, _ => ⟨rfl, Nat.zero_le _⟩
  | _, .bl _, _ => ⟨rfl, Nat.zero_le _⟩
  | _, .int _, _ => ⟨rfl, Nat.zero_le _⟩
  | _, .str _, _ => ⟨rfl, Nat.zero_le _⟩
  | 0, .tup xs, h => by simp [okD] at h
  | n + 1, .tup xs, h => by
    have := okDs_py n xs (by simpa [okD] using h)
    exact ⟨by simpa [py, PyData.plain] using this.1, by simp only [py, PyData.depth]; omega⟩
  | 0, .lst xs, h => by simp [okD] at h
  | n + 1, .lst xs, h => by
    have := okDs_py n xs (by simpa [okD] using h)
    exact ⟨by simpa [py, PyData.plain] using this.1, by simp only [py, PyData.depth]; omega⟩
  | 0, .frz xs, h => by simp [okD] at h
  | n + 1, .frz xs, h => by
    have := okDs_py n xs (by simpa [okD] using h)
    exact ⟨by simpa [py, PyData.plain] using this.1, by simp only [py, PyData.depth]; omega⟩
  | _, .obj _ _ _, h => by simp [okD] at h
  | _, .dct _ _, h => by simp [okD] at h
  | _, .opq _, h => by simp [okD] at h
  | _, .any, h => by simp [okD] at h
theorem okDs_py : ∀ (n : Nat) (ds : List D), okDs n ds = true → PyData.plainAll (pys ds) = true ∧ PyData.depthAll (pys ds) ≤ n
  | _, [], _ => ⟨rfl, Nat.zero_le _⟩
  | n, x :: xs, h => by
    have h' : okD n x = true ∧ okDs n xs = true := by simpa [okDs] using h
    have a := okD_py n x h'.1
    have b := okDs_py n xs h'.2
    exact ⟨by simp [pys, PyData.plainAll, a.1, b.1], by simp only [pys, PyData.depthAll]; omega⟩
end
mutual
theorem rep_dp {K : PySem.W.Frag} {H : Hp} : ∀ {v : V} {d : D} (n : Nat), Rep K H v d → okD n d = true → Dp K H v (py d)
  | _, _, _, .non, _ => .non
  | _, _, _, .bl b, _ => .bl b
  | _, _, _, .int i, _ => .int i
  | _, _, _, .str x, _ => .str x
  | _, _, 0, .tup s r, h => by simp [okD] at h
  | _, _, n + 1, .tup s r, h => .tup s (reps_dp n r (by simpa [okD] using h))
  | _, _, 0, .lst s r, h => by simp [okD] at h
  | _, _, n + 1, .lst s r, h => .lst (.of s) (reps_dp n r (by simpa [okD] using h))
  | _, _, 0, .frz s r, h => by simp [okD] at h
  | _, _, n + 1, .frz s r, h => .lst s (reps_dp n r (by simpa [okD] using h))
  | _, _, _, .obj _ _ _ _, h => by simp [okD] at h
  | _, _, _, .dct _ _ _, h => by simp [okD] at h
  | _, _, _, .opq _, h => by simp [okD] at h
  | _, _, _, .any _ _, h => by simp [okD] at h
theorem reps_dp {K : PySem.W.Frag} {H : Hp} : ∀ {vs : List V} {ds : List D} (n : Nat), Reps K H vs ds → okDs n ds = true → DpAll K H vs (pys ds)
  | _, _, _, .nil, _ => .nil
  | _, _, n, .cons a r, h => by
    rw [okDs, Bool.and_eq_true] at h
    exact .cons (rep_dp n a h.1) (reps_dp n r h.2)
end
/-- == of data -/
def eqv (a b : D) : Bool := PyData.eqv (py a) (py b)

def addD : D → D → FR D
  | .int i, .int j => .ok (.int (i + j))
  | .str a, .str b => if a.length + b.length ≤ sizeLine then .ok (.str (a ++ b)) else .stuck
  | .tup xs, .tup ys => if xs.length + ys.length ≤ sizeLine then .ok (.tup (xs ++ ys)) else .stuck
  | .lst xs, .lst ys => if xs.length + ys.length ≤ sizeLine then .ok (.lst (xs ++ ys)) else .stuck
  | _, _ => .stuck
def subD : D → D → FR D
  | .int i, .int j => .ok (.int (i - j))
  | _, _ => .stuck
def mulOk (i j : Int) : Prop := (Builtin.Int.intBits i : Int) + (Builtin.Int.intBits j : Int) ≤ 134217728
/-- the checks by Nat, so that no literal is ever peeled -/
def mulB (i j : Int) : Bool := Nat.ble (Builtin.Int.intBits i + Builtin.Int.intBits j) 134217728
omit [Lam] [Pins] in
theorem mulB_iff (i j : Int) : mulB i j = true ↔ mulOk i j := by
  unfold mulB mulOk
  rw [Nat.ble_eq]
  omega
instance (i j : Int) : Decidable (mulOk i j) := decidable_of_iff _ (mulB_iff i j)
def fitB (m : Nat) : Int → Bool
  | .ofNat n => Nat.blt n m
  | .negSucc n => Nat.blt n m
omit [Lam] [Pins] in
theorem fitB_iff {m : Nat} {i : Int} : fitB m i = true ↔ -(m : Int) ≤ i ∧ i < m := by
  cases i with
  | ofNat n =>
    show Nat.blt n m = true ↔ _
    rw [Nat.blt_eq]
    show n < m ↔ -(m : Int) ≤ (n : Int) ∧ (n : Int) < m
    omega
  | negSucc n =>
    show Nat.blt n m = true ↔ _
    rw [Nat.blt_eq]
    omega
def I62 (i : Int) : Prop := -(2 ^ 62) ≤ i ∧ i < 2 ^ 62
def I63 (i : Int) : Prop := -(2 ^ 63) ≤ i ∧ i < 2 ^ 63
omit [Lam] [Pins] in
theorem fit62 (i : Int) : fitB 4611686018427387904 i = true ↔ I62 i := fitB_iff
omit [Lam] [Pins] in
theorem fit63 (i : Int) : fitB 9223372036854775808 i = true ↔ I63 i := fitB_iff
instance (i : Int) : Decidable (I62 i) := decidable_of_iff _ (fit62 i)
instance (i : Int) : Decidable (I63 i) := decidable_of_iff _ (fit63 i)
/-- a list (a tuple of at least one, twice or more often) times an int -/
def mulD : D → D → FR D
  | .int i, .int j => if mulOk i j then .ok (.int (i * j)) else .stuck
  | .lst xs, .int k => if I63 k ∧ xs.length * k.toNat ≤ sizeLine then .ok (.lst (List.replicate k.toNat xs).flatten) else .stuck
  | .tup xs, .int k => if k = 1 then .ok (.tup xs) else if xs ≠ [] ∧ -1000 ≤ k ∧ k ≤ 0 then .ok (.tup []) else if xs ≠ [] ∧ 2 ≤ k ∧ k ≤ 1000 ∧ xs.length ≤ 1000 then .ok (.tup (List.replicate k.toNat xs).flatten) else .stuck
  | _, _ => .stuck
def divOk (i j : Int) : Prop := j ≠ 0 ∧ Builtin.divisionGoesByPylong i j = false
instance (i j : Int) : Decidable (divOk i j) := inferInstanceAs (Decidable (_ ∧ _))
def divD : D → D → FR D
  | .int i, .int j => if divOk i j then .ok (.int (i.fdiv j)) else .stuck
  | _, _ => .stuck
def modD : D → D → FR D
  | .int i, .int j => if j ≠ 0 then .ok (.int (i.fmod j)) else .stuck
  | _, _ => .stuck
def powD : D → D → FR D
  | .int i, .int j => if 0 ≤ j ∧ (Builtin.Int.intBits i : Int) * j ≤ 2 ^ 27 then .ok (.int (i ^ j.toNat)) else .stuck
  | _, _ => .stuck
def negD : D → FR D
  | .int i => .ok (.int (-i))
  | _ => .stuck
def ltD : D → D → FR D
  | .int i, .int j => .ok (.bl (decide (i < j)))
  | .str a, .str b => .ok (.bl (decide (a.cps.toList < b.cps.toList)))
  | _, _ => .stuck
def leD : D → D → FR D
  | .int i, .int j => .ok (.bl (decide (i ≤ j)))
  | .str a, .str b => .ok (.bl (!decide (b.cps.toList < a.cps.toList)))
  | _, _ => .stuck
def gtD : D → D → FR D
  | .int i, .int j => .ok (.bl (decide (j < i)))
  | _, _ => .stuck
def geD : D → D → FR D
  | .int i, .int j => .ok (.bl (decide (j ≤ i)))
  | _, _ => .stuck
def eqD (a b : D) : FR D := if okD 12 a = true ∧ okD 12 b = true then .ok (.bl (eqv a b)) else .stuck
def neD (a b : D) : FR D := if okD 12 a = true ∧ okD 12 b = true then .ok (.bl (!eqv a b)) else .stuck
def isNon : D → Bool
  | .non => true
  | .opq v => decide (v = .non)
  | _ => false
def isD (a b : D) : FR D := match b with
  | .non => .ok (.bl (isNon a))
  | _ => .stuck
def isntD (a b : D) : FR D := match b with
  | .non => .ok (.bl (!isNon a))
  | _ => .stuck
/-- a text within a text -/
def subStr (a b : Str) : Bool := !(Builtin.Str.occurrences b a 0 b.length 1).isEmpty
def inD : D → D → FR D
  | .str a, .str b => .ok (.bl (subStr a b))
  | a, .tup xs => if okD 12 a = true ∧ okDs 12 xs = true then .ok (.bl (xs.any fun y => eqv y a)) else .stuck
  | a, .lst xs => if okD 12 a = true ∧ okDs 12 xs = true then .ok (.bl (xs.any fun y => eqv y a)) else .stuck
  | _, _ => .stuck
def ninD : D → D → FR D
  | .str a, .str b => .ok (.bl (!subStr a b))
  | a, .tup xs => if okD 12 a = true ∧ okDs 12 xs = true then .ok (.bl (!xs.any fun y => eqv y a)) else .stuck
  | a, .lst xs => if okD 12 a = true ∧ okDs 12 xs = true then .ok (.bl (!xs.any fun y => eqv y a)) else .stuck
  | _, _ => .stuck
/-- what has places -/
def seqD : D → Option (List D)
  | .tup xs => some xs
  | .lst xs => some xs
  | .frz xs => some xs
  | _ => none
def lenD : List D → FR D
  | [.str x] => if x.length ≤ sizeLine then .ok (.int x.length) else .stuck
  | [.tup xs] => .ok (.int xs.length)
  | [.lst xs] => .ok (.int xs.length)
  | [.frz xs] => .ok (.int xs.length)
  | _ => .stuck
/-- the ints of data -/
def intsD : List D → Option (List Int)
  | [] => some []
  | .int i :: r => (intsD r).map (i :: ·)
  | _ => none
def blsD : List D → Option (List Bool)
  | [] => some []
  | .bl i :: r => (blsD r).map (i :: ·)
  | _ => none
def sumD : List D → FR D
  | [.lst xs] => match intsD xs with
    | some ns => .ok (.int ns.sum)
    | none => .stuck
  | _ => .stuck
def allD : List D → FR D
  | [.lst xs] => match blsD xs with
    | some bs => .ok (.bl (bs.all id))
    | none => .stuck
  | _ => .stuck
def anyD : List D → FR D
  | [.lst xs] => match blsD xs with
    | some bs => .ok (.bl (bs.any id))
    | none => .stuck
  | _ => .stuck
def tupleD : List D → FR D
  | [.lst xs] => .ok (.tup xs)
  | [.tup xs] => .ok (.tup xs)
  | _ => .stuck
def listD : List D → FR D
  | [.lst xs] => .ok (.lst xs)
  | [.tup xs] => .ok (.lst xs)
  | [.frz xs] => .ok (.lst xs)
  | _ => .stuck
def intD : List D → FR D
  | [.int i] => .ok (.int i)
  | [.bl b] => .ok (.int (if b then 1 else 0))
  | _ => .stuck
def absD : List D → FR D
  | [.int i] => .ok (.int (if i < 0 then -i else i))
  | _ => .stuck
def max2D : List D → FR D
  | [.int i, .int j] => .ok (.int (if j > i then j else i))
  | _ => .stuck
def min2D : List D → FR D
  | [.int i, .int j] => .ok (.int (if j < i then j else i))
  | _ => .stuck
/-- isinstance of a built-in class: the class's number is 0 int, 1 bool, 2 str, 3 tuple, 4 list, 5 dict -/
def isKind (T : String) : D → Option Bool
  | .non => if T = "int" ∨ T = "bool" ∨ T = "str" ∨ T = "tuple" ∨ T = "list" ∨ T = "dict" then some false else none
  | .bl _ => if T = "int" ∨ T = "bool" then some true else if T = "str" ∨ T = "tuple" ∨ T = "list" ∨ T = "dict" then some false else none
  | .int _ => if T = "int" then some true else if T = "bool" ∨ T = "str" ∨ T = "tuple" ∨ T = "list" ∨ T = "dict" then some false else none
  | .str _ => if T = "str" then some true else if T = "int" ∨ T = "bool" ∨ T = "tuple" ∨ T = "list" ∨ T = "dict" then some false else none
  | .tup _ => if T = "tuple" then some true else if T = "int" ∨ T = "bool" ∨ T = "str" ∨ T = "list" ∨ T = "dict" then some false else none
  | .lst _ => if T = "list" then some true else if T = "int" ∨ T = "bool" ∨ T = "str" ∨ T = "tuple" ∨ T = "dict" then some false else none
  | .dct _ _ => if T = "dict" then some true else if T = "int" ∨ T = "bool" ∨ T = "str" ∨ T = "tuple" ∨ T = "list" then some false else none
  | _ => none
def isiD : List D → FR D
  | [d, .opq (.ty T)] => match isKind T d with
    | some b => .ok (.bl b)
    | none => .stuck
  | _ => .stuck
def ixD : D → D → FR D
  | .str x, .int i => if x.length ≤ sizeLine then match atI x.cps.toList i with
    | some c => .ok (.str ⟨#[c]⟩)
    | none => .stuck
    else .stuck
  | .tup xs, .int i => match atI xs i with
    | some d => .ok d
    | none => .stuck
  | .lst xs, .int i => match atI xs i with
    | some d => .ok d
    | none => .stuck
  | .frz xs, .int i => match atI xs i with
    | some d => .ok d
    | none => .stuck
  | _, _ => .stuck
def cutD (xs : List D) (lo hi : Option Int) : List D := (xs.drop (HT.sIx xs.length 0 lo)).take (HT.sIx xs.length xs.length hi - HT.sIx xs.length 0 lo)
def sliceD (x : D) (lo hi : Option Int) : FR D := match x with
  | .tup xs => .ok (.tup (cutD xs lo hi))
  | .lst xs => .ok (.lst (cutD xs lo hi))
  | .frz xs => .ok (.lst (cutD xs lo hi))
  | .str z => if z.length ≤ sizeLine then .ok (.str (cutS z lo hi)) else .stuck
  | _ => .stuck

theorem intsD_map : ∀ ns : List Int, intsD (ns.map D.int) = some ns
  | [] => rfl
  | n :: r => by simp [intsD, intsD_map r]
theorem blsD_map : ∀ ns : List Bool, blsD (ns.map D.bl) = some ns
  | [] => rfl
  | n :: r => by simp [blsD, blsD_map r]
theorem reps_ints {K : PySem.W.Frag} {H : Hp} : ∀ {vs : List V} {ds : List D} {ns : List Int}, Reps K H vs ds → intsD ds = some ns → vs = ns.map V.int
  | _, _, _, .nil, e => by simp [intsD] at e; subst e; rfl
  | _, _, _, .cons h r, e => by
    cases h with
    | int i =>
      simp only [intsD, Option.map_eq_some_iff] at e
      obtain ⟨ns, e1, rfl⟩ := e
      rw [reps_ints r e1]; rfl
    | _ => simp [intsD] at e
theorem reps_bls {K : PySem.W.Frag} {H : Hp} : ∀ {vs : List V} {ds : List D} {ns : List Bool}, Reps K H vs ds → blsD ds = some ns → vs = ns.map V.bl
  | _, _, _, .nil, e => by simp [blsD] at e; subst e; rfl
  | _, _, _, .cons h r, e => by
    cases h with
    | bl i =>
      simp only [blsD, Option.map_eq_some_iff] at e
      obtain ⟨ns, e1, rfl⟩ := e
      rw [reps_bls r e1]; rfl
    | _ => simp [blsD] at e
theorem reps_at {K : PySem.W.Frag} {H : Hp} {vs : List V} {ds : List D} {i : Int} {d : D} (r : Reps K H vs ds) (h : atI ds i = some d) : ∃ v, atI vs i = some v ∧ Rep K H v d := by
  unfold atI at h ⊢
  rw [r.length]
  cases e : ixN ds.length i with
  | none => rw [e] at h; simp at h
  | some j =>
    rw [e] at h
    exact r.get j h

section
variable {X : Cx} {W : WX}
theorem OA.add : OA X W (binaryOp .Add) addD := by
  refine ⟨_, op_add.or (op_add_str.or (op_catA.or op_cat)), fun G σ H F ρ x y dx dy Q S rx ry hg => ?_⟩
  cases rx with
  | int i =>
    cases ry with
    | int j => exact .inl ⟨i, j, rfl, rfl, hg H F S Sm.refl _ (.int _)⟩
    | _ => exact hg.elim
  | str a =>
    cases ry with
    | str b =>
      simp only [addD] at hg
      by_cases hz : a.length + b.length ≤ sizeLine
      · rw [if_pos hz] at hg; exact .inr (.inl ⟨a, b, rfl, rfl, hz, hg H F S Sm.refl _ (.str _)⟩)
      · rw [if_neg hz] at hg; exact hg.elim
    | _ => exact hg.elim
  | tup hx rx =>
    cases ry with
    | tup hy ry =>
      simp only [addD] at hg
      split at hg
      · rename_i hz
        refine .inr (.inr (.inl ⟨_, _, _, _, rfl, rfl, SqTm S.sub hx, SqTm S.sub hy, ?_, fun e => ?_, fun _ e => ?_, fun _ e p hp => ?_⟩))
        · rw [rx.length, ry.length]; exact hz
        · subst e
          cases rx
          rw [List.nil_append] at hg
          exact hg H F S Sm.refl _ (.tup hy ry)
        · subst e
          cases ry
          rw [List.append_nil] at hg
          exact hg H F S Sm.refl _ (.tup hx rx)
        · exact newTup S (rx.append ry) hg hp
      · exact hg.elim
    | _ => exact hg.elim
  | lst hx rx =>
    cases ry with
    | lst hy ry =>
      simp only [addD] at hg
      split at hg
      · rename_i hz
        refine .inr (.inr (.inr ⟨_, _, _, _, rfl, rfl, S.sub _ _ hx, S.sub _ _ hy, ?_, fun p hp => ?_⟩))
        · rw [rx.length, ry.length]; exact hz
        · exact newLst S (rx.append ry) hg hp
      · exact hg.elim
    | _ => exact hg.elim
  | _ => exact hg.elim
theorem OA.ofI {f : Value → Value → Sem Value} {r : R2} (h : OpR X f r) {g : D → D → FR D} (hr : ∀ G σ H F ρ i j Q, Stt X.K G σ H F ρ → Good X.K G W σ F ((g (.int i) (.int j)).lift ρ) (PD X.K Q) → r (.int i) (.int j) H Q)
    (hs : ∀ dx dy, g dx dy = .stuck ∨ ∃ i j, dx = .int i ∧ dy = .int j) : OA X W f g := by
  refine ⟨r, h, fun G σ H F ρ x y dx dy Q S rx ry hg => ?_⟩
  rcases hs dx dy with e | ⟨i, j, rfl, rfl⟩
  · rw [e] at hg; exact hg.elim
  · cases rx; cases ry
    exact hr G σ H F ρ i j Q S hg
theorem OA.sub : OA X W (binaryOp .Sub) subD := .ofI op_sub (fun G σ H F ρ i j Q S hg => ⟨i, j, rfl, rfl, hg H F S Sm.refl _ (.int _)⟩) fun dx dy => by
  cases dx <;> cases dy <;> first | exact .inl rfl | exact .inr ⟨_, _, rfl, rfl⟩
theorem OA.mod : OA X W (binaryOp .Mod) modD := .ofI op_modN (fun G σ H F ρ i j Q S hg => by
    simp only [modD] at hg
    split at hg
    · rename_i hz; exact ⟨i, j, rfl, rfl, hz, hg H F S Sm.refl _ (.int _)⟩
    · exact hg.elim) fun dx dy => by
  cases dx <;> cases dy <;> first | exact .inl rfl | exact .inr ⟨_, _, rfl, rfl⟩
theorem op_fdivP : OpR X (binaryOp .FloorDiv) (rI divOk fun i j => .int (i.fdiv j)) := opI fun _ _ _ _ _ _ _ hc q => floordiv_int hc.1 q (.inl hc.2)
theorem OA.div : OA X W (binaryOp .FloorDiv) divD := .ofI op_fdivP (fun G σ H F ρ i j Q S hg => by
    simp only [divD] at hg
    split at hg
    · rename_i hz; exact ⟨i, j, rfl, rfl, hz, hg H F S Sm.refl _ (.int _)⟩
    · exact hg.elim) fun dx dy => by
  cases dx <;> cases dy <;> first | exact .inl rfl | exact .inr ⟨_, _, rfl, rfl⟩
theorem op_powP : OpR X (binaryOp .Pow) (rI (fun i j => 0 ≤ j ∧ (Builtin.Int.intBits i : Int) * j ≤ 2 ^ 27) fun i j => .int (i ^ j.toNat)) := opI fun _ _ _ _ _ _ _ hc q => pow_int hc.1 hc.2 q
theorem OA.pow : OA X W (binaryOp .Pow) powD := .ofI op_powP (fun G σ H F ρ i j Q S hg => by
    simp only [powD] at hg
    split at hg
    · rename_i hz; exact ⟨i, j, rfl, rfl, hz, hg H F S Sm.refl _ (.int _)⟩
    · exact hg.elim) fun dx dy => by
  cases dx <;> cases dy <;> first | exact .inl rfl | exact .inr ⟨_, _, rfl, rfl⟩
theorem reps_rep {K : PySem.W.Frag} {H : Hp} {vs : List V} {ds : List D} (r : Reps K H vs ds) : ∀ n : Nat, Reps K H (List.replicate n vs).flatten (List.replicate n ds).flatten
  | 0 => .nil
  | n + 1 => by
    rw [List.replicate_succ, List.replicate_succ, List.flatten_cons, List.flatten_cons]
    exact r.append (reps_rep r n)
end
theorem tuple_mulW1 (l : Addr) (items : Array Value) (n : Nat) (sl : Array (Option Value)) (dd : Option Addr) (u : Tok) :
    Meets (Builtin.«tuple.__mul__» ⟨[.ref l, .int 1 u], []⟩) (fun _ R s => s.heap.get? l = some { cls := .type "tuple", dict := dd, data := .seq items n, slots := sl } ∧
      R (.ok (.ret (Value.ref l))) s) :=
  .of_wp fun prog w A R s h => by
    obtain ⟨hp, g, d, tk, os⟩ := s
    obtain ⟨hl, h⟩ := h
    have f1 := AutoSeq1.idx_int
    wp_walk using wpAny_loadPart' hl
    exact ⟨_, rfl, h⟩
/-- a tuple times nothing -/
theorem tuple_mulW0 (l : Addr) (its : Array Value) (n : Nat) (sl : Array (Option Value)) (dd : Option Addr) (x : Int) (u : Tok) (lo : (decide (x < -(2 ^ 63)) || decide (x ≥ 2 ^ 63)) = false) (some_ : (its.isEmpty || x == 1) = false) (no : (decide (x ≤ 0) || its.isEmpty) = true) :
    Meets (Builtin.«tuple.__mul__» ⟨[.ref l, .int x u], []⟩) (fun _ R s => s.heap.get? l = some { cls := .type "tuple", dict := dd, data := .seq its n, slots := sl } ∧
      R (.ok (.ret (Value.ref s.heap.objs.size))) { s with heap := s.heap.push { cls := Value.type "tuple", data := Data.seq #[] }, toks := s.toks }) :=
  .of_wp fun prog w A R s h => by
    obtain ⟨hp, g, d, tk, os⟩ := s
    obtain ⟨at_l, h⟩ := h
    have ix := AutoSeq1.idx_int
    wp_walk using wpAny_loadPart' at_l
    repeat (first
      | (refine wpAny_ite_false (decide_eq_false (by rw [lo]; exact Bool.false_ne_true)) ?_; wp_walk using wpAny_loadPart' at_l)
      | (refine wpAny_ite_false (decide_eq_false (by rw [some_]; exact Bool.false_ne_true)) ?_; wp_walk using wpAny_loadPart' at_l)
      | (rw [if_pos no]; wp_walk using wpAny_loadPart' at_l)
      | (rw [if_pos (decide_eq_true no)]; wp_walk using wpAny_loadPart' at_l))
    exact ⟨_, rfl, h⟩
def rRepT0 (K : PySem.W.Frag) : R2 := fun x y H Q => ∃ l k xs, x = .ref l ∧ y = .int k ∧ SqT K H l xs ∧ xs ≠ [] ∧ -1000 ≤ k ∧ k ≤ 0 ∧ ∀ p, H p = none → Q (.ref p) (upd H p (.tup []))
theorem op_repT0 {X : Cx} : OpR X (binaryOp .Mult) (rRepT0 X.K) := by
  intro pins s σ H x y v u Q I rx ry h
  obtain ⟨l, k, xs, rfl, rfl, hT, hne, k1, k2, q⟩ := h
  cases rx
  obtain ⟨t, rfl⟩ := ry
  obtain ⟨its, r, ⟨⟨cls, dd, data, sl⟩, ho, hc, n, hd⟩, hs⟩ := I.tuple hT
  simp only at hc hd
  subst hc hd
  have ne : its.toArray.isEmpty = false := by
    cases its with
    | nil => exact absurd (List.eq_nil_of_length_eq_zero (by rw [r.length]; rfl)) hne
    | cons a b => rfl
  have c0 : (decide (k < -(2 ^ 63)) || decide (k ≥ 2 ^ 63)) = false := by
    simp only [Bool.or_eq_false_iff, decide_eq_false_iff_not]; omega
  have c1 : (its.toArray.isEmpty || k == 1) = false := by
    rw [ne]
    have : k ≠ 1 := by omega
    simp [this]
  have c2 : (decide (k ≤ 0) || its.toArray.isEmpty) = true := by simp [k2]
  refine wpAny_binaryOp_repeat_ref (T := "tuple") (U := "int") (by decide) ⟨_, ho, rfl⟩ (fun s' => typeIs_int s' k t) noFill_tuple_mul F.fills_int_mul F.slot_int_rmul repeat_tuple F.slot_int_index.lookup
    (call_meets F.slot_int_rmul (typeIs_int s k t) F.entry_int_rmul (F.args_int_rmul_2 _ _) (int_rmul_tuple k t l its.toArray n dd sl)
      ⟨ho, rfl, ⟨_, ho, rfl⟩, call_meets F.slot_tuple_mul ⟨_, ho, rfl⟩ F.entry_tuple_mul (F.args_tuple_mul_2 _ _) (tuple_mulW0 l its.toArray n sl dd k t c0 c1 c2) ⟨ho, ?_⟩⟩)
  have hf := I.hok.fresh (Nat.le_refl s.heap.objs.size)
  exact ⟨.ref s.heap.objs.size, upd H s.heap.objs.size (.tup []), I.laid (t' := s.toks) (fun b w e => Heap.get?_push_of_some _ e) (Nat.le_refl _) ⟨by show 0 ≤ sizeLine; decide, [], .nil, ⟨_, Heap.get?_push_size _ rfl, rfl, _, rfl⟩⟩, rfl, q _ hf⟩
/-- a tuple times 1 is the tuple -/
def rRepT1 (K : PySem.W.Frag) : R2 := fun x y H Q => ∃ l xs, x = .ref l ∧ y = .int 1 ∧ SqT K H l xs ∧ Q (.ref l) H
theorem op_repT1 {X : Cx} : OpR X (binaryOp .Mult) (rRepT1 X.K) := by
  intro pins s σ H x y v u Q I rx ry h
  obtain ⟨l, xs, rfl, rfl, hT, q⟩ := h
  cases rx
  obtain ⟨t, rfl⟩ := ry
  obtain ⟨its, r, ⟨⟨cls, dd, data, sl⟩, ho, hc, n, hd⟩, hs⟩ := I.tuple hT
  simp only at hc hd
  subst hc hd
  refine wpAny_binaryOp_repeat_ref (T := "tuple") (U := "int") (by decide) ⟨_, ho, rfl⟩ (fun s' => typeIs_int s' 1 t) noFill_tuple_mul F.fills_int_mul F.slot_int_rmul repeat_tuple F.slot_int_index.lookup
    (call_meets F.slot_int_rmul (typeIs_int s 1 t) F.entry_int_rmul (F.args_int_rmul_2 _ _) (int_rmul_tuple 1 t l its.toArray n dd sl)
      ⟨ho, rfl, ⟨_, ho, rfl⟩, call_meets F.slot_tuple_mul ⟨_, ho, rfl⟩ F.entry_tuple_mul (F.args_tuple_mul_2 _ _) (tuple_mulW1 l its.toArray n sl dd t) ⟨ho, ?_⟩⟩)
  exact ⟨.ref l, H, I, rfl, q⟩
section
variable {X : Cx} {W : WX}
theorem OA.mul : OA X W (binaryOp .Mult) mulD := by
  refine ⟨_, op_mulX.or (op_rep.or (op_repT.or (op_repT1.or op_repT0))), fun G σ H F ρ x y dx dy Q S rx ry hg => ?_⟩
  cases rx with
  | int i =>
    cases ry with
    | int j =>
      simp only [mulD] at hg
      split at hg
      · rename_i hz; exact .inl ⟨i, j, rfl, rfl, hz, hg H F S Sm.refl _ (.int _)⟩
      · exact hg.elim
    | _ => exact hg.elim
  | lst hx rx =>
    cases ry with
    | int k =>
      simp only [mulD] at hg
      split at hg
      · rename_i hz
        exact .inr (.inl ⟨_, k, _, rfl, rfl, S.sub _ _ hx, hz.1.1, hz.1.2, by rw [rx.length]; exact hz.2, fun p hp => newLst S (reps_rep rx _) hg hp⟩)
      · exact hg.elim
    | _ => exact hg.elim
  | tup hx rx =>
    cases ry with
    | int k =>
      simp only [mulD] at hg
      split at hg
      · rename_i hz
        subst hz
        exact .inr (.inr (.inr (.inl ⟨_, _, rfl, rfl, SqTm S.sub hx, hg H F S Sm.refl _ (.tup hx rx)⟩)))
      split at hg
      · rename_i hz
        refine .inr (.inr (.inr (.inr ⟨_, k, _, rfl, rfl, SqTm S.sub hx, ?_, hz.2.1, hz.2.2, fun p hp => newTup S .nil hg hp⟩)))
        intro e
        have := rx.length
        rw [e] at this
        exact hz.1 (List.eq_nil_of_length_eq_zero this.symm)
      split at hg
      · rename_i hz
        refine .inr (.inr (.inl ⟨_, k, _, rfl, rfl, SqTm S.sub hx, ?_, hz.2.1, hz.2.2.1, by rw [rx.length]; exact hz.2.2.2, fun p hp => newTup S (reps_rep rx _) hg hp⟩))
        intro e
        have := rx.length
        rw [e] at this
        exact hz.1 (List.eq_nil_of_length_eq_zero this.symm)
      · exact hg.elim
    | _ => exact hg.elim
  | _ => exact hg.elim
theorem UA.neg : UA X W (unaryOp .USub) negD := by
  refine ⟨_, un_neg, fun G σ H F ρ x dx Q S rx hg => ?_⟩
  cases rx with
  | int i => exact ⟨i, rfl, hg H F S Sm.refl _ (.int _)⟩
  | _ => exact hg.elim
theorem op_le_str : OpR X (compareOp .LtE) (fun x y H Q => ∃ i j, x = .str i ∧ y = .str j ∧ Q (.bl (!decide (j.cps.toList < i.cps.toList))) H) := by
  intro pins s σ H x y v u Q I rx ry h
  obtain ⟨i, j, rfl, rfl, q⟩ := h
  obtain ⟨t, rfl⟩ := rx
  obtain ⟨t', rfl⟩ := ry
  exact PySem.P.le_str (fin_bl I q (by simp))
theorem OA.lt : OA X W (compareOp .Lt) ltD := by
  refine ⟨_, op_lt.or op_lt_str, fun G σ H F ρ x y dx dy Q S rx ry hg => ?_⟩
  cases rx with
  | int i =>
    cases ry with
    | int j => exact .inl ⟨i, j, rfl, rfl, hg H F S Sm.refl _ (.bl _)⟩
    | _ => exact hg.elim
  | str i =>
    cases ry with
    | str j => exact .inr ⟨i, j, rfl, rfl, hg H F S Sm.refl _ (.bl _)⟩
    | _ => exact hg.elim
  | _ => exact hg.elim
theorem OA.le : OA X W (compareOp .LtE) leD := by
  refine ⟨_, op_le.or op_le_str, fun G σ H F ρ x y dx dy Q S rx ry hg => ?_⟩
  cases rx with
  | int i =>
    cases ry with
    | int j => exact .inl ⟨i, j, rfl, rfl, hg H F S Sm.refl _ (.bl _)⟩
    | _ => exact hg.elim
  | str i =>
    cases ry with
    | str j => exact .inr ⟨i, j, rfl, rfl, hg H F S Sm.refl _ (.bl _)⟩
    | _ => exact hg.elim
  | _ => exact hg.elim
theorem OA.gt : OA X W (compareOp .Gt) gtD := .ofI op_gt (fun G σ H F ρ i j Q S hg => ⟨i, j, rfl, rfl, hg H F S Sm.refl _ (.bl _)⟩) fun dx dy => by
  cases dx <;> cases dy <;> first | exact .inl rfl | exact .inr ⟨_, _, rfl, rfl⟩
theorem OA.ge : OA X W (compareOp .GtE) geD := .ofI op_ge (fun G σ H F ρ i j Q S hg => ⟨i, j, rfl, rfl, hg H F S Sm.refl _ (.bl _)⟩) fun dx dy => by
  cases dx <;> cases dy <;> first | exact .inl rfl | exact .inr ⟨_, _, rfl, rfl⟩
def rEqP (K : PySem.W.Frag) : R2 := fun x y H Q => ∃ d e, Dp K H x d ∧ Dp K H y e ∧ d.plain = true ∧ e.plain = true ∧ d.depth ≤ 12 ∧ Q (.bl (PyData.eqv d e)) H
def rNeP (K : PySem.W.Frag) : R2 := fun x y H Q => ∃ d e, Dp K H x d ∧ Dp K H y e ∧ d.plain = true ∧ e.plain = true ∧ d.depth ≤ 12 ∧ Q (.bl (!PyData.eqv d e)) H
theorem op_eqP (hu : X.A.units + 64 < cLine) : OpR X (compareOp .Eq) (rEqP X.K) := by
  intro pins s σ H x y v u Q I rx ry h
  obtain ⟨d, e, hd, he, sd, se, hz, q⟩ := h
  obtain ⟨as, r1⟩ := Dp.reads I d x v hd rx
  obtain ⟨bs, r2⟩ := Dp.reads I e y u he ry
  exact SeqAt.eq_plain r1 r2 sd se (by omega) ⟨.bl _, H, I, rfl, q⟩
theorem op_neP (hu : X.A.units + 64 < cLine) : OpR X (compareOp .NotEq) (rNeP X.K) := by
  intro pins s σ H x y v u Q I rx ry h
  obtain ⟨d, e, hd, he, sd, se, hz, q⟩ := h
  obtain ⟨as, r1⟩ := Dp.reads I d x v hd rx
  obtain ⟨bs, r2⟩ := Dp.reads I e y u he ry
  exact SeqAt.ne_plain r1 r2 sd se (by omega) ⟨.bl _, H, I, rfl, q⟩
theorem OA.eq (hu : X.A.units + 64 < cLine) : OA X W (compareOp .Eq) eqD := by
  refine ⟨_, op_eqP hu, fun G σ H F ρ x y dx dy Q S rx ry hg => ?_⟩
  unfold eqD at hg
  split at hg
  · rename_i hz
    have p1 := okD_py 12 dx hz.1
    have p2 := okD_py 12 dy hz.2
    exact ⟨py dx, py dy, rep_dp 12 (rx.mono S.sub) hz.1, rep_dp 12 (ry.mono S.sub) hz.2, p1.1, p2.1, p1.2, hg H F S Sm.refl _ (.bl _)⟩
  · exact hg.elim
theorem OA.ne (hu : X.A.units + 64 < cLine) : OA X W (compareOp .NotEq) neD := by
  refine ⟨_, op_neP hu, fun G σ H F ρ x y dx dy Q S rx ry hg => ?_⟩
  unfold neD at hg
  split at hg
  · rename_i hz
    have p1 := okD_py 12 dx hz.1
    have p2 := okD_py 12 dy hz.2
    exact ⟨py dx, py dy, rep_dp 12 (rx.mono S.sub) hz.1, rep_dp 12 (ry.mono S.sub) hz.2, p1.1, p2.1, p1.2, hg H F S Sm.refl _ (.bl _)⟩
  · exact hg.elim
def rInP (K : PySem.W.Frag) : R2 := fun x y H Q => ∃ d xs, Dp K H x d ∧ (Dp K H y (.tuple xs) ∨ Dp K H y (.list xs)) ∧ d.plain = true ∧ PyData.plainAll xs = true ∧ d.depth ≤ 12 ∧ Q (.bl (xs.any fun z => PyData.eqv z d)) H
def rNinP (K : PySem.W.Frag) : R2 := fun x y H Q => ∃ d xs, Dp K H x d ∧ (Dp K H y (.tuple xs) ∨ Dp K H y (.list xs)) ∧ d.plain = true ∧ PyData.plainAll xs = true ∧ d.depth ≤ 12 ∧ Q (.bl (!xs.any fun z => PyData.eqv z d)) H
theorem op_inP (hu : X.A.units + 64 < cLine) : OpR X (compareOp .In) (rInP X.K) := by
  intro pins s σ H x y v u Q I rx ry h
  obtain ⟨d, xs, hd, he, sd, se, hz, q⟩ := h
  obtain ⟨as, r1⟩ := Dp.reads I d x v hd rx
  rcases he with he | he
  · obtain ⟨bs, r2⟩ := Dp.reads I _ y u he ry
    exact SeqAt.in_tuple_data r2 r1 se sd (by omega) ⟨.bl _, H, I, rfl, q⟩
  · obtain ⟨bs, r2⟩ := Dp.reads I _ y u he ry
    exact SeqAt.in_list_data r2 r1 se sd (by omega) ⟨.bl _, H, I, rfl, q⟩
theorem op_ninP (hu : X.A.units + 64 < cLine) : OpR X (compareOp .NotIn) (rNinP X.K) := by
  intro pins s σ H x y v u Q I rx ry h
  obtain ⟨d, xs, hd, he, sd, se, hz, q⟩ := h
  obtain ⟨as, r1⟩ := Dp.reads I d x v hd rx
  rcases he with he | he
  · obtain ⟨bs, r2⟩ := Dp.reads I _ y u he ry
    exact SeqAt.notIn_tuple_data r2 r1 se sd (by omega) ⟨.bl _, H, I, rfl, q⟩
  · obtain ⟨bs, r2⟩ := Dp.reads I _ y u he ry
    exact SeqAt.notIn_list_data r2 r1 se sd (by omega) ⟨.bl _, H, I, rfl, q⟩
theorem any_py (a : D) : ∀ xs : List D, (pys xs).any (fun z => PyData.eqv z (py a)) = xs.any fun y => eqv y a
  | [] => rfl
  | x :: xs => by simp only [pys, List.any_cons, any_py a xs, eqv]
theorem OA.in_ (hu : X.A.units + 64 < cLine) : OA X W (compareOp .In) inD := by
  refine ⟨_, op_in_str.or (op_inP hu), fun G σ H F ρ x y dx dy Q S rx ry hg => ?_⟩
  cases ry with
  | str b =>
    cases rx with
    | str a => exact .inl ⟨a, b, rfl, rfl, hg H F S Sm.refl _ (.bl _)⟩
    | _ => exact hg.elim
  | @tup a xs ds hy ry =>
    have hg : Good X.K G W σ F ((if okD 12 dx = true ∧ okDs 12 ds = true then FR.ok (D.bl (ds.any fun y => eqv y dx)) else .stuck).lift ρ) (PD X.K Q) := by cases dx <;> exact hg
    split at hg
    · rename_i hz
      have p1 := okD_py 12 dx hz.1
      exact .inr ⟨py dx, pys ds, rep_dp 12 (rx.mono S.sub) hz.1, .inl (.tup (SqTm S.sub hy) (reps_dp 12 (ry.mono S.sub) hz.2)), p1.1, (okDs_py 12 ds hz.2).1, p1.2, by rw [any_py]; exact hg H F S Sm.refl _ (.bl _)⟩
    · exact hg.elim
  | @lst a xs ds hy ry =>
    have hg : Good X.K G W σ F ((if okD 12 dx = true ∧ okDs 12 ds = true then FR.ok (D.bl (ds.any fun y => eqv y dx)) else .stuck).lift ρ) (PD X.K Q) := by cases dx <;> exact hg
    split at hg
    · rename_i hz
      have p1 := okD_py 12 dx hz.1
      exact .inr ⟨py dx, pys ds, rep_dp 12 (rx.mono S.sub) hz.1, .inr (.lst (.of (S.sub _ _ hy)) (reps_dp 12 (ry.mono S.sub) hz.2)), p1.1, (okDs_py 12 ds hz.2).1, p1.2, by rw [any_py]; exact hg H F S Sm.refl _ (.bl _)⟩
    · exact hg.elim
  | _ => cases dx <;> exact hg.elim
theorem OA.notIn (hu : X.A.units + 64 < cLine) : OA X W (compareOp .NotIn) ninD := by
  refine ⟨_, op_notin_str.or (op_ninP hu), fun G σ H F ρ x y dx dy Q S rx ry hg => ?_⟩
  cases ry with
  | str b =>
    cases rx with
    | str a => exact .inl ⟨a, b, rfl, rfl, hg H F S Sm.refl _ (.bl _)⟩
    | _ => exact hg.elim
  | @tup a xs ds hy ry =>
    have hg : Good X.K G W σ F ((if okD 12 dx = true ∧ okDs 12 ds = true then FR.ok (D.bl (!ds.any fun y => eqv y dx)) else .stuck).lift ρ) (PD X.K Q) := by cases dx <;> exact hg
    split at hg
    · rename_i hz
      have p1 := okD_py 12 dx hz.1
      exact .inr ⟨py dx, pys ds, rep_dp 12 (rx.mono S.sub) hz.1, .inl (.tup (SqTm S.sub hy) (reps_dp 12 (ry.mono S.sub) hz.2)), p1.1, (okDs_py 12 ds hz.2).1, p1.2, by rw [any_py]; exact hg H F S Sm.refl _ (.bl _)⟩
    · exact hg.elim
  | @lst a xs ds hy ry =>
    have hg : Good X.K G W σ F ((if okD 12 dx = true ∧ okDs 12 ds = true then FR.ok (D.bl (!ds.any fun y => eqv y dx)) else .stuck).lift ρ) (PD X.K Q) := by cases dx <;> exact hg
    split at hg
    · rename_i hz
      have p1 := okD_py 12 dx hz.1
      exact .inr ⟨py dx, pys ds, rep_dp 12 (rx.mono S.sub) hz.1, .inr (.lst (.of (S.sub _ _ hy)) (reps_dp 12 (ry.mono S.sub) hz.2)), p1.1, (okDs_py 12 ds hz.2).1, p1.2, by rw [any_py]; exact hg H F S Sm.refl _ (.bl _)⟩
    · exact hg.elim
  | _ => cases dx <;> exact hg.elim
theorem reps1 {K : PySem.W.Frag} {F : Hp} {vs : List V} {d : D} (r : Reps K F vs [d]) : ∃ v, vs = [v] ∧ Rep K F v d := by
  cases r with
  | cons h r => cases r; exact ⟨_, rfl, h⟩
theorem reps2 {K : PySem.W.Frag} {F : Hp} {vs : List V} {d e : D} (r : Reps K F vs [d, e]) : ∃ v u, vs = [v, u] ∧ Rep K F v d ∧ Rep K F u e := by
  cases r with
  | cons h r =>
    obtain ⟨u, rfl, h2⟩ := reps1 r
    exact ⟨_, u, rfl, h, h2⟩
theorem CA.len : CA X W (.builtin "len") lenD := by
  refine ⟨_, call_len, fun G σ H F ρ vs ds Q S r hg => ?_⟩
  match ds, hg with
  | [.str x], hg =>
    obtain ⟨v, rfl, rv⟩ := reps1 r
    cases rv
    simp only [lenD] at hg
    split at hg
    · rename_i hz; exact ⟨_, x.length, rfl, ⟨hz, rfl⟩, hg H F S Sm.refl _ (.int _)⟩
    · exact hg.elim
  | [.tup xs], hg =>
    obtain ⟨v, rfl, rv⟩ := reps1 r
    cases rv with
    | tup hx rx => exact ⟨_, xs.length, rfl, .inr ⟨_, SqTm S.sub hx, rx.length.symm⟩, hg H F S Sm.refl _ (.int _)⟩
  | [.lst xs], hg =>
    obtain ⟨v, rfl, rv⟩ := reps1 r
    cases rv with
    | lst hx rx => exact ⟨_, xs.length, rfl, .inl ⟨_, .of (S.sub _ _ hx), rx.length.symm⟩, hg H F S Sm.refl _ (.int _)⟩
  | [.frz xs], hg =>
    obtain ⟨v, rfl, rv⟩ := reps1 r
    cases rv with
    | frz hx rx => exact ⟨_, xs.length, rfl, .inl ⟨_, SqLm S.sub hx, rx.length.symm⟩, hg H F S Sm.refl _ (.int _)⟩
  | [], hg => exact hg.elim
  | _ :: _ :: _, hg => exact (by simp only [lenD] at hg; exact hg.elim)
  | [.non], hg => exact hg.elim
  | [.bl _], hg => exact hg.elim
  | [.int _], hg => exact hg.elim
  | [.obj _ _ _], hg => exact hg.elim
  | [.dct _ _], hg => exact hg.elim
  | [.opq _], hg => exact hg.elim
  | [.any], hg => exact hg.elim
theorem one_lst {g : List D → FR D} {h : List D → FR D} (e : ∀ ds, g ds = match ds with | [.lst xs] => h xs | _ => .stuck) {K : PySem.W.Frag} {G : Ent} {σ : St} {H F : Hp} {ρ : Ro} {vs : List V} {ds : List D} {Q : VK} (S : Stt K G σ H F ρ) (r : Reps K F vs ds)
    (hg : Good K G W σ F ((g ds).lift ρ) (PD K Q)) : ∃ a ws xs, vs = [V.ref a] ∧ H a = some (.lst ws) ∧ Reps K F ws xs ∧ Good K G W σ F ((h xs).lift ρ) (PD K Q) := by
  rw [e] at hg
  split at hg
  · obtain ⟨v, rfl, rv⟩ := reps1 r
    cases rv with
    | lst hx rx => exact ⟨_, _, _, rfl, S.sub _ _ hx, rx, hg⟩
  · exact hg.elim
theorem CA.sum (hc : X.calm = true) : CA X W (.builtin "sum") sumD := by
  refine ⟨_, cr_sum hc, fun G σ H F ρ vs ds Q S r hg => ?_⟩
  obtain ⟨a, ws, xs, rfl, h1, h2, h3⟩ := one_lst (h := fun xs => match intsD xs with | some ns => .ok (.int ns.sum) | none => .stuck) (fun ds => by unfold sumD; split <;> rfl) S r hg
  cases e : intsD xs with
  | none => rw [e] at h3; exact h3.elim
  | some ns =>
    rw [e] at h3
    rw [reps_ints h2 e] at h1
    exact ⟨a, ns, rfl, .of h1, h3 H F S Sm.refl _ (.int _)⟩
theorem CA.all (hc : X.calm = true) : CA X W (.builtin "all") allD := by
  refine ⟨_, cr_all hc, fun G σ H F ρ vs ds Q S r hg => ?_⟩
  obtain ⟨a, ws, xs, rfl, h1, h2, h3⟩ := one_lst (h := fun xs => match blsD xs with | some ns => .ok (.bl (ns.all id)) | none => .stuck) (fun ds => by unfold allD; split <;> rfl) S r hg
  cases e : blsD xs with
  | none => rw [e] at h3; exact h3.elim
  | some ns =>
    rw [e] at h3
    rw [reps_bls h2 e] at h1
    exact ⟨a, ns, rfl, .of h1, h3 H F S Sm.refl _ (.bl _)⟩
theorem CA.any (hc : X.calm = true) : CA X W (.builtin "any") anyD := by
  refine ⟨_, cr_any hc, fun G σ H F ρ vs ds Q S r hg => ?_⟩
  obtain ⟨a, ws, xs, rfl, h1, h2, h3⟩ := one_lst (h := fun xs => match blsD xs with | some ns => .ok (.bl (ns.any id)) | none => .stuck) (fun ds => by unfold anyD; split <;> rfl) S r hg
  cases e : blsD xs with
  | none => rw [e] at h3; exact h3.elim
  | some ns =>
    rw [e] at h3
    rw [reps_bls h2 e] at h1
    exact ⟨a, ns, rfl, .of h1, h3 H F S Sm.refl _ (.bl _)⟩
theorem CA.tuple : CA X W (.type "tuple") tupleD := by
  refine ⟨_, call_tuple_of, fun G σ H F ρ vs ds Q S r hg => ?_⟩
  unfold tupleD at hg
  split at hg
  · obtain ⟨v, rfl, rv⟩ := reps1 r
    cases rv with
    | lst hx rx => exact ⟨_, _, rfl, .inl ⟨.of (S.sub _ _ hx), fun l hl => newTup S rx hg hl⟩⟩
  · obtain ⟨v, rfl, rv⟩ := reps1 r
    cases rv with
    | tup hx rx => exact ⟨_, _, rfl, .inr ⟨SqTm S.sub hx, hg H F S Sm.refl _ (.tup hx rx)⟩⟩
  · exact hg.elim
theorem CA.list : CA X W (.type "list") listD := by
  refine ⟨_, call_list_of, fun G σ H F ρ vs ds Q S r hg => ?_⟩
  unfold listD at hg
  split at hg
  · obtain ⟨v, rfl, rv⟩ := reps1 r
    cases rv with
    | lst hx rx => exact ⟨_, _, rfl, .inl (.of (S.sub _ _ hx)), fun l hl => newLst S rx hg hl⟩
  · obtain ⟨v, rfl, rv⟩ := reps1 r
    cases rv with
    | tup hx rx => exact ⟨_, _, rfl, .inr (SqTm S.sub hx), fun l hl => newLst S rx hg hl⟩
  · obtain ⟨v, rfl, rv⟩ := reps1 r
    cases rv with
    | frz hx rx => exact ⟨_, _, rfl, .inl (SqLm S.sub hx), fun l hl => newLst S rx hg hl⟩
  · exact hg.elim
theorem CA.int : CA X W (.type "int") intD := by
  refine ⟨_, call_int1, fun G σ H F ρ vs ds Q S r hg => ?_⟩
  unfold intD at hg
  split at hg
  · obtain ⟨v, rfl, rv⟩ := reps1 r
    cases rv
    exact .inl ⟨_, rfl, hg H F S Sm.refl _ (.int _)⟩
  · obtain ⟨v, rfl, rv⟩ := reps1 r
    cases rv
    exact .inr ⟨_, rfl, hg H F S Sm.refl _ (.int _)⟩
  · exact hg.elim
theorem CA.abs : CA X W (.builtin "abs") absD := by
  refine ⟨_, call_abs, fun G σ H F ρ vs ds Q S r hg => ?_⟩
  unfold absD at hg
  split at hg
  · obtain ⟨v, rfl, rv⟩ := reps1 r
    cases rv
    exact ⟨_, rfl, hg H F S Sm.refl _ (.int _)⟩
  · exact hg.elim
theorem CA.max2 (hc : X.calm = true) : CA X W (.builtin "max") max2D := by
  refine ⟨_, call_max2 hc, fun G σ H F ρ vs ds Q S r hg => ?_⟩
  unfold max2D at hg
  split at hg
  · obtain ⟨v, u, rfl, rv, ru⟩ := reps2 r
    cases rv; cases ru
    exact ⟨_, _, rfl, hg H F S Sm.refl _ (.int _)⟩
  · exact hg.elim
theorem CA.min2 (hc : X.calm = true) : CA X W (.builtin "min") min2D := by
  refine ⟨_, call_min2 hc, fun G σ H F ρ vs ds Q S r hg => ?_⟩
  unfold min2D at hg
  split at hg
  · obtain ⟨v, u, rfl, rv, ru⟩ := reps2 r
    cases rv; cases ru
    exact ⟨_, _, rfl, hg H F S Sm.refl _ (.int _)⟩
  · exact hg.elim
/-- isinstance of a built-in class -/
def tyN : D → Option String
  | .non => some "NoneType" | .bl _ => some "bool" | .int _ => some "int" | .str _ => some "str" | .tup _ => some "tuple" | .lst _ => some "list" | .dct _ _ => some "dict" | _ => none
theorem isKind_kit {K : PySem.W.Frag} {T : String} {d : D} {b : Bool} (h : isKind T d = some b) : ∃ t, tyN d = some t ∧ kitB t T = some b := by
  have key0 : ∀ t ∈ ["NoneType", "bool", "int", "str", "tuple", "list", "dict"], ∀ T ∈ ["int", "bool", "str", "tuple", "list", "dict"], kitB t T = some (decide (t = T) || decide (t = "bool" ∧ T = "int")) := by decide +kernel
  have key : ∀ t T : String, t ∈ ["NoneType", "bool", "int", "str", "tuple", "list", "dict"] → T ∈ ["int", "bool", "str", "tuple", "list", "dict"] → kitB t T = some (decide (t = T) || decide (t = "bool" ∧ T = "int")) := fun t T h1 h2 => key0 t h1 T h2
  cases d with
  | non =>
    refine ⟨_, rfl, ?_⟩
    simp only [isKind] at h
    split at h
    · rename_i hT; cases h
      rcases hT with rfl | rfl | rfl | rfl | rfl | rfl <;> exact key _ _ (by decide) (by decide)
    · cases h
  | bl _ =>
    refine ⟨_, rfl, ?_⟩
    simp only [isKind] at h
    split at h
    · rename_i hT; cases h
      rcases hT with rfl | rfl <;> exact key _ _ (by decide) (by decide)
    · split at h
      · rename_i hT; cases h
        rcases hT with rfl | rfl | rfl | rfl <;> exact key _ _ (by decide) (by decide)
      · cases h
  | int _ =>
    refine ⟨_, rfl, ?_⟩
    simp only [isKind] at h
    split at h
    · rename_i hT; cases h
      subst hT; exact key _ _ (by decide) (by decide)
    · split at h
      · rename_i hT; cases h
        rcases hT with rfl | rfl | rfl | rfl | rfl <;> exact key _ _ (by decide) (by decide)
      · cases h
  | str _ =>
    refine ⟨_, rfl, ?_⟩
    simp only [isKind] at h
    split at h
    · rename_i hT; cases h
      subst hT; exact key _ _ (by decide) (by decide)
    · split at h
      · rename_i hT; cases h
        rcases hT with rfl | rfl | rfl | rfl | rfl <;> exact key _ _ (by decide) (by decide)
      · cases h
  | tup _ =>
    refine ⟨_, rfl, ?_⟩
    simp only [isKind] at h
    split at h
    · rename_i hT; cases h
      subst hT; exact key _ _ (by decide) (by decide)
    · split at h
      · rename_i hT; cases h
        rcases hT with rfl | rfl | rfl | rfl | rfl <;> exact key _ _ (by decide) (by decide)
      · cases h
  | lst _ =>
    refine ⟨_, rfl, ?_⟩
    simp only [isKind] at h
    split at h
    · rename_i hT; cases h
      subst hT; exact key _ _ (by decide) (by decide)
    · split at h
      · rename_i hT; cases h
        rcases hT with rfl | rfl | rfl | rfl | rfl <;> exact key _ _ (by decide) (by decide)
      · cases h
  | frz _ => cases h
  | obj _ _ _ => cases h
  | dct _ _ =>
    refine ⟨_, rfl, ?_⟩
    simp only [isKind] at h
    split at h
    · rename_i hT; cases h
      subst hT; exact key _ _ (by decide) (by decide)
    · split at h
      · rename_i hT; cases h
        rcases hT with rfl | rfl | rfl | rfl | rfl <;> exact key _ _ (by decide) (by decide)
      · cases h
  | opq _ => cases h
  | any => cases h
theorem tyx_of {K : PySem.W.Frag} {H : Hp} {v : V} {d : D} {t : String} (r : Rep K H v d) (h : tyN d = some t) : TyX K H v (.type t) := by
  cases r with
  | non => cases h; exact .base .non
  | bl b => cases h; exact .base (.bl b)
  | int i => cases h; exact .base (.int i)
  | str x => cases h; exact .base (.str x)
  | tup s r =>
    cases h
    rcases s with (s | ⟨o, s⟩) | ⟨o, its, n, hk, hc, _⟩
    · exact .base (.tup s)
    · exact .fTuple s
    · exact .kTuple hk hc
  | lst s r => cases h; exact .base (.lst s)
  | frz s r => cases h
  | obj _ _ _ _ => cases h
  | dct s _ _ => cases h; exact .base (.dK s)
  | opq v => cases h
  | any => cases h
theorem CA.isi : CA X W (.builtin "isinstance") isiD := by
  refine ⟨_, call_isi, fun G σ H F ρ vs ds Q S r hg => ?_⟩
  unfold isiD at hg
  split at hg
  · rename_i d T
    obtain ⟨v, u, rfl, rv, ru⟩ := reps2 r
    cases ru
    cases e : isKind T d with
    | none => rw [e] at hg; exact hg.elim
    | some b =>
      rw [e] at hg
      obtain ⟨t, e1, e2⟩ := isKind_kit (K := X.K) e
      exact ⟨v, .ty T, .type t, .type T, b, rfl, .ty T, tyx_of (rv.mono S.sub) e1, kit_ty e2, hg H F S Sm.refl _ (.bl b)⟩
  · exact hg.elim
variable {a b e : Expr} {fa fb fl fh : M D} {pos : Pos}
theorem IxR.or {r r' : R2} (h : IxR X r) (h' : IxR X r') : IxR X (fun x y H Q => r x y H Q ∨ r' x y H Q) := by
  intro value slice pins s σ H x y v u Q I rx ry q hs
  rcases q with q | q
  · exact h value slice pins s σ H x y v u Q I rx ry q hs
  · exact h' value slice pins s σ H x y v u Q I rx ry q hs
theorem AE.ix (ha : AE X W a fa) (hb : AE X W b fb) (hs : PlainIx b := by exact fun _ _ => rfl) : AE X W (.Subscript a b pos) (m2 ixD fa fb) := by
  obtain ⟨ta, pa, qa⟩ := ha
  obtain ⟨tb, pb, qb⟩ := hb
  refine ⟨_, pe_ix (IxR.or ix_list (IxR.or ix_tup ix_str)) pa pb hs, fun G σ H F ρ Q S hg => qa G σ H F ρ _ S (hg.bind fun dx ρ1 H1 F1 S1 s1 g1 v r1 => qb G σ H1 F1 ρ1 _ S1 (g1.bind fun dy ρ2 H2 F2 S2 s2 g2 u r2 => ?_))⟩
  have r1 := r1.mono s2
  cases r2 with
  | int i =>
    cases r1 with
    | str x =>
      simp only [ixD] at g2
      split at g2
      · rename_i hz
        split at g2
        · rename_i c hc
          exact .inr (.inr ⟨x, i, c, rfl, rfl, hz, hc, g2 H2 F2 S2 Sm.refl _ (.str _)⟩)
        · exact g2.elim
      · exact g2.elim
    | tup hx rx =>
      simp only [ixD] at g2
      split at g2
      · rename_i d hd
        obtain ⟨w, e1, rw_⟩ := reps_at rx hd
        exact .inr (.inl ⟨_, _, i, w, rfl, rfl, SqTm S2.sub hx, e1, g2 H2 F2 S2 Sm.refl _ rw_⟩)
      · exact g2.elim
    | lst hx rx =>
      simp only [ixD] at g2
      split at g2
      · rename_i d hd
        obtain ⟨w, e1, rw_⟩ := reps_at rx hd
        exact .inl ⟨_, _, i, w, rfl, rfl, .of (S2.sub _ _ hx), e1, g2 H2 F2 S2 Sm.refl _ rw_⟩
      · exact g2.elim
    | frz hx rx =>
      simp only [ixD] at g2
      split at g2
      · rename_i d hd
        obtain ⟨w, e1, rw_⟩ := reps_at rx hd
        exact .inl ⟨_, _, i, w, rfl, rfl, SqLm S2.sub hx, e1, g2 H2 F2 S2 Sm.refl _ rw_⟩
      · exact g2.elim
    | _ => exact g2.elim
  | _ => exact (by cases dx <;> exact g2.elim)
/-- an end of a slice -/
def AO (X : Cx) (W : WX) (e : Option Expr) (f : M (Option Int)) : Prop := ∃ t, PO X e t ∧ ∀ G σ H F ρ Q, Stt X.K G σ H F ρ → Good X.K G W σ F (f ρ) (fun o _ H' _ => Q o H') → t σ H Q
def mONone : M (Option Int) := fun ρ => .ok none ρ
def mOSome (f : M D) : M (Option Int) := fun ρ => (f ρ).bind fun d ρ => match d with
  | .int i => .ok (some i) ρ
  | _ => .stuck
theorem AO.none : AO X W none mONone := ⟨_, po_none, fun G σ H F ρ Q S hg => hg H F S Sm.refl⟩
theorem AO.some (h : AE X W e fa) : AO X W (some e) (mOSome fa) := by
  obtain ⟨t, p, q⟩ := h
  refine ⟨_, po_some p, fun G σ H F ρ Q S hg => q G σ H F ρ _ S (hg.bind fun d ρ1 H1 F1 S1 s1 g1 v r1 => ?_)⟩
  cases r1 with
  | int i => exact ⟨i, rfl, g1 H1 F1 S1 Sm.refl⟩
  | _ => exact g1.elim
def mSlice (f : M D) (l h : M (Option Int)) : M D := fun ρ => (f ρ).bind fun x ρ => (l ρ).bind fun lo ρ => (h ρ).bind fun hi ρ => (sliceD x lo hi).lift ρ
theorem reps_cut {K : PySem.W.Frag} {H : Hp} {vs : List V} {ds : List D} (r : Reps K H vs ds) (lo hi : Option Int) : Reps K H (cutV vs lo hi) (cutD ds lo hi) := by
  unfold cutV cutD
  rw [r.length]
  exact (r.drop _).take _
theorem cutD_whole {ds : List D} {lo hi : Option Int} (h : HT.sIx ds.length 0 lo = 0 ∧ HT.sIx ds.length ds.length hi = ds.length) : cutD ds lo hi = ds := by
  unfold cutD
  rw [h.1, h.2]
  simp
theorem AE.slice {lo hi : Option Expr} {p2 : Pos} {ml mh : M (Option Int)} (he : AE X W e fa) (hl : AO X W lo ml) (hh : AO X W hi mh) : AE X W (.Subscript e (.Slice lo hi Option.none p2) pos) (mSlice fa ml mh) := by
  obtain ⟨t, p, q⟩ := he
  obtain ⟨tl, pl, ql⟩ := hl
  obtain ⟨th, ph, qh⟩ := hh
  refine ⟨_, pe_slice (sl_list.or (sl_tupA.or sl_str)) p pl ph, fun G σ H F ρ Q S hg => q G σ H F ρ _ S (hg.bind fun d ρ1 H1 F1 S1 s1 g1 v r1 => ql G σ H1 F1 ρ1 _ S1 (g1.bind fun o ρ2 H2 F2 S2 s2 g2 => qh G σ H2 F2 ρ2 _ S2 (g2.bind fun o' ρ3 H3 F3 S3 s3 g3 => ?_)))⟩
  have r1 := r1.mono (s2.tr s3)
  cases r1 with
  | tup hx rx =>
    refine .inr (.inl ⟨_, _, rfl, SqTm S3.sub hx, fun h => ?_, fun h p hp => newTup S3 (reps_cut rx o o') g3 hp⟩)
    rw [rx.length] at h
    have g3 : Good X.K G W σ F3 (.ok (.tup (cutD _ o o')) ρ3) (PD X.K Q) := g3
    rw [cutD_whole h] at g3
    exact g3 H3 F3 S3 Sm.refl _ (.tup hx rx)
  | lst hx rx => exact .inl ⟨_, _, rfl, .of (S3.sub _ _ hx), fun p hp => newLst S3 (reps_cut rx o o') g3 hp⟩
  | frz hx rx => exact .inl ⟨_, _, rfl, SqLm S3.sub hx, fun p hp => newLst S3 (reps_cut rx o o') g3 hp⟩
  | str z =>
    simp only [sliceD] at g3
    split at g3
    · rename_i hz
      exact .inr (.inr ⟨z, rfl, hz, g3 H3 F3 S3 Sm.refl _ (.str _)⟩)
    · exact g3.elim
  | _ => exact g3.elim
end
end Mr
namespace Mr
open PySem PySem.Spec PyProof.Rows L2
variable [Lam] [Pins]

/-- ds come, one a turn, in every later state -/
def ItOk (K : PySem.W.Frag) (J : It) (F : Hp) (ds : List D) : Prop :=
  ∀ (i : Nat) (H F' : Hp), Sm F F' → Sm F' H → (ds.length = i → J.stop i H) ∧ ∀ d, ds[i]? = some d → J.go i H ∧ ∀ x H', J.yld i H x H' → ∃ F'', Aft K H F' H' F'' ∧ Rep K F'' x d
theorem ItOk.mono {K : PySem.W.Frag} {J : It} {F F1 : Hp} {ds : List D} (h : ItOk K J F ds) (s : Sm F F1) : ItOk K J F1 ds := fun i H F' s1 s2 => h i H F' (s.tr s1) s2
theorem Aft.refl {K : PySem.W.Frag} {H F : Hp} (s : Sm F H) : Aft K H F H F := ⟨Sm.refl.t, s, Sm.refl, fun _ _ e => .inl e, id⟩
theorem Aft.tup {K : PySem.W.Frag} {H F : Hp} (s : Sm F H) {p : Addr} {o : HO} (hp : H p = none) (ho : isTb o = false := by rfl) : Aft K H F (upd H p o) (upd F p o) :=
  ⟨(Sm.updN hp).t, fun a u h => by
    by_cases e : a = p
    · subst e; rw [upd_same] at h ⊢; exact h
    · rw [upd_ne e] at h ⊢; exact s a u h, Sm.updN (s.none hp), fun a u h => by
    by_cases e : a = p
    · subst e; exact .inr (.of hp)
    · rw [upd_ne e] at h; exact .inl h, fun z => z.upd ho⟩
def AI (X : Cx) (W : WX) (tg it : Expr) (f : M (List D)) : Prop :=
  ∃ wi, PI X tg it wi ∧ ∀ G σ H F ρ R, Stt X.K G σ H F ρ → Good X.K G W σ F (f ρ) (fun ds _ H' F' => ∀ J, ItOk X.K J F' ds → R J H') → wi σ H R

/-- what a for walks: a list, a tuple, a text -/
def walkD : D → FR (List D)
  | .lst xs => .ok xs
  | .frz xs => .ok xs
  | .tup xs => .ok xs
  | .str x => .ok (x.cps.toList.map fun c => .str ⟨#[c]⟩)
  | _ => .stuck
def mWalk (f : M D) : M (List D) := fun ρ => (f ρ).bind fun x ρ => (walkD x).lift ρ
def rangeD (lo hi : Int) : List D := (List.range (hi - lo).toNat).map fun (k : Nat) => .int (lo + (k : Int))
def range1D : List D → FR (List D)
  | [.int j] => if I62 j then .ok (rangeD 0 j) else .stuck
  | _ => .stuck
def zipD : List D → FR (List D)
  | [.lst xs, .lst ys] => .ok (xs.zipWith (fun x y => .tup [x, y]) ys)
  | [.tup xs, .tup ys] => .ok (xs.zipWith (fun x y => .tup [x, y]) ys)
  | _ => .stuck
def mItL (g : List D → FR (List D)) (a : M (List D)) : M (List D) := fun ρ => (a ρ).bind fun xs ρ => (g xs).lift ρ

section
variable {X : Cx} {W : WX} {tg : Expr}
def iAny (K : PySem.W.Frag) (tl : TE) : TI := fun σ H R => tl σ H fun x H1 =>
  (∃ a xs, x = .ref a ∧ SqL K H1 a xs ∧ R (Itl K a) H1) ∨ (∃ a xs, x = .ref a ∧ SqT K H1 a xs ∧ R (Itt K a) H1) ∨ ∃ z, x = .str z ∧ R (Its z) H1
theorem one_it {pins : List (Addr × Obj)} {σ : St} {H : Hp} {s : Shared} {R : It → Hp → Prop} {J : It} {tn : Nat → Heap → Prop} {tk : Nat} {o : Obj} (I : Inv X pins σ H s) (T : Turn X.prog X.w X.K tg J [s.heap.objs.size] s.heap.objs.size tn) (h0 : tn 0 (s.heap.push o)) (q : R J H) :
    PIE X pins σ tg R (.ref s.heap.objs.size) { s with heap := s.heap.push o, toks := tk } :=
  ⟨s.heap.objs.size, [s.heap.objs.size], tn, J, H, rfl, I.kept (t' := tk) fun _ _ e => Heap.get?_push_of_some _ e, T, h0, fun b hb => by
    rw [List.mem_singleton] at hb
    subst hb
    exact I.fpOk (Nat.le_refl _) (I.hok.fresh (Nat.le_refl _)), q⟩
theorem pi_any {l : Expr} {tl : TE} (hl : PE X l tl) : PI X tg l (iAny X.K tl) := by
  refine ⟨fun pins s σ H R I h => ?_⟩
  refine thn (hl.run pins s σ H _ I h) fun v s1 ⟨x, H1, I1, r1, q1⟩ => ?_
  rcases q1 with ⟨a, xs, rfl, hq, q⟩ | ⟨a, xs, rfl, hq, q⟩ | ⟨z, rfl, q⟩
  · cases r1
    obtain ⟨its, _, p, _⟩ := I1.list hq
    exact wpAny_pyIter_list p.isList (one_it (tk := s1.toks) I1 (turn_list a _) ⟨_, Heap.get?_push_size _ rfl, rfl, rfl⟩ q)
  · cases r1
    obtain ⟨its, _, p, _⟩ := I1.tuple hq
    exact wpAny_pyIter_tuple (show s1.heap.IsTuple a its.toArray from p) (one_it (tk := s1.toks) I1 (turn_tuple a _) ⟨_, Heap.get?_push_size _ rfl, rfl, rfl⟩ q)
  · obtain ⟨t, rfl⟩ := r1
    cases ha : z.cps.all (· < 128) with
    | false => exact wpAny_pyIter_wide ha (one_it (tk := s1.toks) I1 (turn_str _ z t "str_iterator" (.inr rfl)) ⟨_, Heap.get?_push_size _ rfl, rfl, rfl⟩ q)
    | true => exact wpAny_pyIter_ascii ha (one_it (tk := s1.toks) I1 (turn_str _ z t "str_ascii_iterator" (.inl rfl)) ⟨_, Heap.get?_push_size _ rfl, rfl, rfl⟩ q)
theorem okL {K : PySem.W.Frag} {F : Hp} {a : Addr} {vs : List V} {ds : List D} (h : SqL K F a vs) (r : Reps K F vs ds) : ItOk K (Itl K a) F ds := fun i H F' s1 s2 => by
  have h' : SqL K H a vs := SqLm (s1.tr s2) h
  refine ⟨fun hi => ⟨vs, h', by rw [r.length]; exact Nat.le_of_eq hi⟩, fun d hd => ?_⟩
  obtain ⟨v, e, rv⟩ := r.get i hd
  exact ⟨⟨vs, v, h', e⟩, fun x H' ⟨e1, e2⟩ => by
    subst e1
    have := (e2 vs h').symm.trans e
    cases this
    exact ⟨F', .refl s2, rv.mono s1⟩⟩
theorem okT {K : PySem.W.Frag} {F : Hp} {a : Addr} {vs : List V} {ds : List D} (h : SqT K F a vs) (r : Reps K F vs ds) : ItOk K (Itt K a) F ds := fun i H F' s1 s2 => by
  have h' : SqT K H a vs := SqTm (s1.tr s2) h
  refine ⟨fun hi => ⟨vs, h', by rw [r.length]; exact Nat.le_of_eq hi⟩, fun d hd => ?_⟩
  obtain ⟨v, e, rv⟩ := r.get i hd
  exact ⟨⟨vs, v, h', e⟩, fun x H' ⟨e1, e2⟩ => by
    subst e1
    have := (e2 vs h').symm.trans e
    cases this
    exact ⟨F', .refl s2, rv.mono s1⟩⟩
theorem okS {K : PySem.W.Frag} {F : Hp} {z : Str} : ItOk K (Its z) F (z.cps.toList.map fun c => .str ⟨#[c]⟩) := fun i H F' s1 s2 => by
  refine ⟨fun hi => ?_, fun d hd => ?_⟩
  · show z.cps.size ≤ i
    have := Nat.le_of_eq hi
    simpa using this
  · rw [List.getElem?_map] at hd
    obtain ⟨c, e, rfl⟩ := Option.map_eq_some_iff.mp hd
    have e' : z.cps[i]? = some c := by simpa using e
    refine ⟨(Array.getElem?_eq_some_iff.mp e').1, fun x H' ⟨e1, c', e2, e3⟩ => ?_⟩
    subst e1
    rw [e'] at e2; cases e2
    subst e3
    exact ⟨F', .refl s2, .str _⟩
theorem okR {K : PySem.W.Frag} {F : Hp} {lo hi : Int} : ItOk K (Itr lo (hi - lo).toNat) F (rangeD lo hi) := fun i H F' s1 s2 => by
  refine ⟨fun hi' => ?_, fun d hd => ?_⟩
  · show (hi - lo).toNat ≤ i
    have := Nat.le_of_eq hi'
    simpa [rangeD] using this
  · unfold rangeD at hd
    rw [List.getElem?_map] at hd
    obtain ⟨c, e, rfl⟩ := Option.map_eq_some_iff.mp hd
    obtain ⟨hl, e⟩ := List.getElem?_eq_some_iff.mp e
    rw [List.getElem_range] at e
    subst e
    refine ⟨by rw [List.length_range] at hl; exact hl, fun x H' ⟨e1, e2⟩ => ?_⟩
    subst e1 e2
    exact ⟨F', .refl s2, .int _⟩
theorem zip_len {α β γ : Type} {f : α → β → γ} {xs : List α} {ys : List β} {i : Nat} (h : (List.zipWith f xs ys).length ≤ i) : xs.length ≤ i ∨ ys.length ≤ i := by
  rw [List.length_zipWith] at h
  omega
theorem zip_get {α β γ : Type} {f : α → β → γ} {xs : List α} {ys : List β} {i : Nat} {d : γ} (h : (List.zipWith f xs ys)[i]? = some d) : ∃ x y, xs[i]? = some x ∧ ys[i]? = some y ∧ d = f x y := by
  rw [List.getElem?_zipWith] at h
  cases e1 : xs[i]? with
  | none => rw [e1] at h; cases h
  | some x =>
    cases e2 : ys[i]? with
    | none => rw [e1, e2] at h; cases h
    | some y => rw [e1, e2] at h; exact ⟨x, y, rfl, rfl, (Option.some.inj h).symm⟩
theorem okZ {K : PySem.W.Frag} {F : Hp} {a b : Addr} {vs us : List V} {ds es : List D} (h : SqL K F a vs) (r : Reps K F vs ds) (h' : SqL K F b us) (r' : Reps K F us es) : ItOk K (Itz K a b) F (ds.zipWith (fun x y => .tup [x, y]) es) := fun i H F' s1 s2 => by
  have h1 := SqLm (s1.tr s2) h
  have h2 := SqLm (s1.tr s2) h'
  refine ⟨fun hi => ⟨vs, us, h1, h2, by rw [r.length, r'.length]; exact zip_len (Nat.le_of_eq hi)⟩, fun d hd => ?_⟩
  obtain ⟨x, y, e1, e2, rfl⟩ := zip_get hd
  obtain ⟨v, f1, rv⟩ := r.get i e1
  obtain ⟨u, f2, ru⟩ := r'.get i e2
  refine ⟨⟨vs, us, v, u, h1, h2, f1, f2⟩, fun z H' ⟨T, x', y', ez, hT, eH, k1, k2⟩ => ?_⟩
  have q1 := (k1 vs h1).symm.trans f1
  have q2 := (k2 us h2).symm.trans f2
  cases q1; cases q2
  subst ez eH
  exact ⟨upd F' T (.tup [v, u]), .tup s2 hT, .tup (.of upd_same) (.cons (rv.mono (s1.tr (Sm.updN (s2.none hT)))) (.cons (ru.mono (s1.tr (Sm.updN (s2.none hT)))) .nil))⟩
theorem okZT {K : PySem.W.Frag} {F : Hp} {a b : Addr} {vs us : List V} {ds es : List D} (h : SqT K F a vs) (r : Reps K F vs ds) (h' : SqT K F b us) (r' : Reps K F us es) : ItOk K (RZ.ItzT K a b) F (ds.zipWith (fun x y => .tup [x, y]) es) := fun i H F' s1 s2 => by
  have h1 := SqTm (s1.tr s2) h
  have h2 := SqTm (s1.tr s2) h'
  refine ⟨fun hi => ⟨vs, us, h1, h2, by rw [r.length, r'.length]; exact zip_len (Nat.le_of_eq hi)⟩, fun d hd => ?_⟩
  obtain ⟨x, y, e1, e2, rfl⟩ := zip_get hd
  obtain ⟨v, f1, rv⟩ := r.get i e1
  obtain ⟨u, f2, ru⟩ := r'.get i e2
  refine ⟨⟨vs, us, v, u, h1, h2, f1, f2⟩, fun z H' ⟨T, x', y', ez, hT, eH, k1, k2⟩ => ?_⟩
  have q1 := (k1 vs h1).symm.trans f1
  have q2 := (k2 us h2).symm.trans f2
  cases q1; cases q2
  subst ez eH
  exact ⟨upd F' T (.tup [v, u]), .tup s2 hT, .tup (.of upd_same) (.cons (rv.mono (s1.tr (Sm.updN (s2.none hT)))) (.cons (ru.mono (s1.tr (Sm.updN (s2.none hT)))) .nil))⟩
variable {e e2 : Expr} {fe : M D} {fs : M (List D)} {p pos : Pos}
theorem AI.any (h : AE X W e fe) : AI X W tg e (mWalk fe) := by
  obtain ⟨t, pe, qe⟩ := h
  refine ⟨_, pi_any pe, fun G σ H F ρ R S hg => qe G σ H F ρ _ S (hg.bind fun d ρ1 H1 F1 S1 s1 g1 v r1 => ?_)⟩
  cases r1 with
  | lst hx rx => exact .inl ⟨_, _, rfl, .of (S1.sub _ _ hx), g1 H1 F1 S1 Sm.refl _ (okL (.of hx) rx)⟩
  | frz hx rx => exact .inl ⟨_, _, rfl, SqLm S1.sub hx, g1 H1 F1 S1 Sm.refl _ (okL hx rx)⟩
  | tup hx rx => exact .inr (.inl ⟨_, _, rfl, SqTm S1.sub hx, g1 H1 F1 S1 Sm.refl _ (okT hx rx)⟩)
  | str z => exact .inr (.inr ⟨z, rfl, g1 H1 F1 S1 Sm.refl _ okS⟩)
  | _ => exact g1.elim
theorem AI.range1 (hg : Gl X "range") (hm : X.mg "range" = none) (ha : AA X W [e] fs) (hs : starEach [e] X.env = [(false, eval e X.env)] := by rfl) : AI X W tg (.Call (.Name "range" p) [e] [] pos) (mItL range1D fs) := by
  obtain ⟨t, pa, qa⟩ := ha
  refine ⟨_, pi_range1 hg hm pa hs, fun G σ H F ρ R S hgd => qa G σ H F ρ _ S (hgd.bind fun ds ρ1 H1 F1 S1 s1 g1 vs r1 => ?_)⟩
  unfold range1D at g1
  split at g1
  · split at g1
    · rename_i hz
      obtain ⟨v, rfl, rv⟩ := reps1 r1
      cases rv
      exact ⟨_, rfl, hz.1, hz.2, g1 H1 F1 S1 Sm.refl _ (by simpa using okR (lo := 0))⟩
    · exact g1.elim
  · exact g1.elim
theorem AI.zip {tpos : Pos} {elts : List Expr} {kk : Nat} (hg : Gl X "zip") (hm : X.mg "zip" = none) (ha : AA X W [e, e2] fs) (hs : starEach [e, e2] X.env = (false, eval e X.env) :: starEach [e2] X.env := by rfl) (hpl : (backTo pos (starEach [e2] X.env)).any (·.1) = false := by rfl) :
    AI X W (.Tuple elts kk tpos) (.Call (.Name "zip" p) [e, e2] [] pos) (mItL zipD fs) := by
  obtain ⟨t, pa, qa⟩ := ha
  refine ⟨_, RZ.pi_zipA hg hm pa hs hpl, fun G σ H F ρ R S hgd => qa G σ H F ρ _ S (hgd.bind fun ds ρ1 H1 F1 S1 s1 g1 vs r1 => ?_)⟩
  unfold zipD at g1
  split at g1
  · obtain ⟨v, u, rfl, rv, ru⟩ := reps2 r1
    cases rv with
    | lst hx rx =>
      cases ru with
      | lst hy ry => exact ⟨_, _, _, _, rfl, .inl ⟨.of (S1.sub _ _ hx), .of (S1.sub _ _ hy), g1 H1 F1 S1 Sm.refl _ (okZ (.of hx) rx (.of hy) ry)⟩⟩
  · obtain ⟨v, u, rfl, rv, ru⟩ := reps2 r1
    cases rv with
    | tup hx rx =>
      cases ru with
      | tup hy ry => exact ⟨_, _, _, _, rfl, .inr ⟨SqTm S1.sub hx, SqTm S1.sub hy, g1 H1 F1 S1 Sm.refl _ (okZT hx rx hy ry)⟩⟩
  · exact g1.elim
end

/-- the slots that a target stores to -/
inductive Tg where
  | sl (i : Nat)
  | tp (ts : List Tg)
mutual
def putT : Tg → D → Ro → R Unit
  | .sl i, d, ρ => if (ρ.getD i .un).isIo = true then .stuck else .ok () (ρ.set i (.val d))
  | .tp ts, .tup xs, ρ => if xs.length = lenT ts then putTs ts xs ρ else .stuck
  | .tp ts, .lst xs, ρ => if xs.length = lenT ts then putTs ts xs ρ else .stuck
  | .tp _, _, _ => .stuck
def putTs : List Tg → List D → Ro → R Unit
  | [], [], ρ => .ok () ρ
  | t :: ts, x :: xs, ρ => (putT t x ρ).bind fun _ ρ => putTs ts xs ρ
  | _, _, _ => .stuck
def lenT : List Tg → Nat
  | [] => 0
  | _ :: ts => lenT ts + 1
end
mutual
/-- the slots of a target -/
def slT : Tg → List Nat
  | .sl i => [i]
  | .tp ts => slTs ts
def slTs : List Tg → List Nat
  | [] => []
  | t :: ts => slT t ++ slTs ts
end
/-- behind stores: the slots may be others -/
def GoodT (K : PySem.W.Frag) (G : Ent) (F : Hp) (σ : St) (sl : List Nat) (r : R Unit) (Q : St → Hp → Prop) : Prop := match r with
  | .ok _ ρ => ∀ σ' H' F', Stt K G σ' H' F' ρ → Sm F F' → (∀ i, i ∉ sl → σ'[i]? = σ[i]?) → Q σ' H'
  | _ => False
theorem GoodT.mono {K : PySem.W.Frag} {G : Ent} {F F1 : Hp} {σ : St} {sl : List Nat} {r : R Unit} {Q : St → Hp → Prop} (s : Sm F F1) (h : GoodT K G F σ sl r Q) : GoodT K G F1 σ sl r Q := by
  cases r with
  | ok a ρ => exact fun σ' H' F' S q => h σ' H' F' S (s.tr q)
  | exc x ρ => exact h
  | stuck => exact h
def AG (X : Cx) (tg : Expr) (t : Tg) : Prop := ∃ g, PG X tg g ∧ ∀ G σ H F ρ v d Q, Stt X.K G σ H F ρ → Rep X.K F v d → GoodT X.K G F σ (slT t) (putT t d ρ) Q → g v σ H Q
def AGs (X : Cx) (tg : List Expr) (t : List Tg) : Prop := ∃ g, PGs X tg g ∧ ∀ G σ H F ρ vs ds Q, Stt X.K G σ H F ρ → Reps X.K F vs ds → GoodT X.K G F σ (slTs t) (putTs t ds ρ) Q → g vs σ H Q
section
variable {X : Cx} {pos : Pos}
theorem AG.name {i : Nat} {x : Str} (hN : X.N.Nodup) (hi : X.N[i]? = some x) (hx : Loc X.env.scope x) (hf : X.fn x = true ∨ X.env.scope.names.lookup x = some .local := by first | exact .inl rfl | exact .inr rfl) : AG X (.Name x pos) (.sl i) := by
  refine ⟨_, pg_name hN hi hx hf, fun G σ H F ρ v d Q S r hg => ?_⟩
  unfold putT at hg
  split at hg
  · exact hg.elim
  · rename_i h
    exact hg _ H F (S.setVal (by simpa using h) r) Sm.refl fun j hj => List.getElem?_set_ne (fun e => hj (by simp [slT, e]))
theorem AGs.nil : AGs X [] [] := ⟨_, pgs_nil, fun G σ H F ρ vs ds Q S r hg => by
  cases r with
  | nil => exact ⟨rfl, hg σ H F S Sm.refl fun _ _ => rfl⟩
  | cons => exact hg.elim⟩
theorem AGs.cons {e : Expr} {es : List Expr} {t : Tg} {ts : List Tg} (h : AG X e t) (hr : AGs X es ts) (hs : (assignEach (e :: es) X.env).map (·.2) = assign e X.env :: (assignEach es X.env).map (·.2) := by rfl) : AGs X (e :: es) (t :: ts) := by
  obtain ⟨g, pg, qg⟩ := h
  obtain ⟨gs, pgs, qgs⟩ := hr
  refine ⟨_, pgs_cons pg pgs hs, fun G σ H F ρ vs ds Q S r hg => ?_⟩
  cases r with
  | nil => exact hg.elim
  | @cons v vs d ds rv rr =>
    refine ⟨v, vs, rfl, qg G σ H F ρ v d _ S rv ?_⟩
    unfold putTs at hg
    cases e : putT t d ρ with
    | ok a ρ1 =>
      rw [e] at hg
      refine fun σ' H' F' S' s' o' => qgs G σ' H' F' ρ1 vs ds _ S' (rr.mono s') ?_
      have hg : GoodT X.K G F σ (slTs (t :: ts)) (putTs ts ds ρ1) Q := hg
      cases e2 : putTs ts ds ρ1 with
      | ok b ρ2 =>
        rw [e2] at hg
        exact fun σ2 H2 F2 S2 s2 o2 => hg σ2 H2 F2 S2 (s'.tr s2) fun i hi => (o2 i fun h => hi (by simp [slTs, h])).trans (o' i fun h => hi (by simp [slTs, h]))
      | exc x ρ2 => rw [e2] at hg; exact hg.elim
      | stuck => rw [e2] at hg; exact hg.elim
    | exc x ρ1 => rw [e] at hg; exact hg.elim
    | stuck => rw [e] at hg; exact hg.elim
theorem pg_or {tg : Expr} {g1 g2 : TG} (h1 : PG X tg g1) (h2 : PG X tg g2) : PG X tg fun v σ H Q => g1 v σ H Q ∨ g2 v σ H Q := ⟨fun pins s σ H v u Q I r hw => hw.elim (fun w => h1.run pins s σ H v u Q I r w) fun w => h2.run pins s σ H v u Q I r w⟩
theorem AGs.len {es : List Expr} {ts : List Tg} (hn : es.length = lenT ts) : es.length = lenT ts := hn
theorem AG.tup {es : List Expr} {k n : Nat} {ts : List Tg} (hc : X.calm = true) (h : AGs X es ts) (hl : n = lenT ts := by rfl) (hn : (assignEach es X.env).length = n := by rfl) (hst : (assignEach es X.env).findIdx? (·.1) = none := by rfl) : AG X (.Tuple es k pos) (.tp ts) := by
  obtain ⟨g, pg, qg⟩ := h
  refine ⟨_, pg_or (pg_tup hc pg hn hst) (pg_unl hc pg hn hst), fun G σ H F ρ v d Q S r hg => ?_⟩
  cases r with
  | tup hx rx =>
    unfold putT at hg
    split at hg
    · rename_i hz
      exact .inl ⟨_, _, rfl, SqTm S.sub hx, by rw [rx.length, hz, hl], qg G σ H F ρ _ _ Q S rx hg⟩
    · exact hg.elim
  | lst hx rx =>
    unfold putT at hg
    split at hg
    · rename_i hz
      exact .inr ⟨_, _, rfl, .of (S.sub _ _ hx), by rw [rx.length, hz, hl], qg G σ H F ρ _ _ Q S rx hg⟩
    · exact hg.elim
  | _ => exact hg.elim
end

def xNx : M Fl := fun ρ => .ok .nx ρ
def xSeq (a b : M Fl) : M Fl := fun ρ => (a ρ).bind fun f ρ => match f with
  | .nx => b ρ
  | f => .ok f ρ
def xRet (e : M D) : M Fl := fun ρ => (e ρ).bind fun d ρ => .ok (.rt d) ρ
def xIf (t : M Bool) (a b : M Fl) : M Fl := fun ρ => (t ρ).bind fun c ρ => if c = true then a ρ else b ρ
def xDrop (e : M D) : M Fl := fun ρ => (e ρ).bind fun _ ρ => .ok .nx ρ
def xPut (t : Tg) (e : M D) : M Fl := fun ρ => (e ρ).bind fun d ρ => (putT t d ρ).bind fun _ ρ => .ok .nx ρ
/-- the loop over what is left -/
def forM (t : Tg) (body : M Fl) : List D → M Fl
  | [], ρ => .ok .nx ρ
  | d :: ds, ρ => (putT t d ρ).bind fun _ ρ => (body ρ).bind fun f ρ => match f with
    | .nx => forM t body ds ρ
    | .ct => forM t body ds ρ
    | .bk => .ok .nx ρ
    | .rt r => .ok (.rt r) ρ
    | .rn r => .ok (.rn r) ρ
def xFor (it : M (List D)) (t : Tg) (body : M Fl) : M Fl := fun ρ => (it ρ).bind fun ds ρ => forM t body ds ρ
section
variable {X : Cx} {W : WX} {st : Stmt} {rest : List Stmt} {a b : M Fl} {e : Expr} {fe : M D} {pos : Pos}
theorem AB.nil : AB X W [] xNx := ⟨_, pss_nil, fun G σ H F ρ Dn S hg => hg σ H F S Sm.refl⟩
theorem seq_good {K : PySem.W.Frag} {G : Ent} {F : Hp} {r : R Fl} {Dn : Ends} {u : TS} (q : ∀ σ H F ρ, Stt K G σ H F ρ → GoodS K G W F (b ρ) Dn → u Dn σ H)
    (hg : GoodS K G W F (r.bind fun f ρ => match f with | .nx => b ρ | f => .ok f ρ) Dn) : GoodS K G W F r { Dn with nx := u Dn } := by
  cases r with
  | ok f ρ =>
    cases f with
    | nx => exact fun σ' H' F' S s => q σ' H' F' ρ S (GoodS.mono s hg)
    | rt d => exact hg
    | rn d => exact hg
    | bk => exact hg
    | ct => exact hg
  | exc x ρ => exact hg
  | stuck => exact hg
theorem AB.cons (h1 : AS X W st a) (h2 : AB X W rest b) : AB X W (st :: rest) (xSeq a b) := by
  obtain ⟨t, p, q⟩ := h1
  obtain ⟨u, p2, q2⟩ := h2
  exact ⟨_, pss_cons p p2, fun G σ H F ρ Dn S hg => q G σ H F ρ _ S (seq_good (fun σ H F ρ S hg => q2 G σ H F ρ Dn S hg) hg)⟩
theorem AB.one (h1 : AS X W st a) : AB X W [st] a := by
  obtain ⟨t, p, q⟩ := h1
  exact ⟨_, pss_one p, q⟩
theorem AS.ret (h : AE X W e fe) : AS X W (.Return (some e) pos) (xRet fe) := by
  obtain ⟨t, p, q⟩ := h
  exact ⟨_, ps_ret p, fun G σ H F ρ Dn S hg => q G σ H F ρ _ S (GoodS.bind hg fun d ρ1 H1 F1 S1 s1 g1 v r1 => g1 v σ H1 F1 S1 Sm.refl r1)⟩
theorem AS.if_ {c : Expr} {x y : List Stmt} {t : M Bool} (hc : AT X W c t) (ha : AB X W x a) (hb : AB X W y b) : AS X W (.If c x y pos) (xIf t a b) := by
  obtain ⟨tc, pc, qc⟩ := hc
  obtain ⟨ta, pa, qa⟩ := ha
  obtain ⟨tb, pb, qb⟩ := hb
  refine ⟨_, ps_if pc pa pb, fun G σ H F ρ Dn S hg => qc G σ H F ρ _ S (GoodS.bind hg fun k ρ1 H1 F1 S1 s1 g1 => ?_)⟩
  show if k = true then ta Dn σ H1 else tb Dn σ H1
  cases k with
  | true => rw [if_pos rfl]; exact qa G σ H1 F1 ρ1 Dn S1 g1
  | false => rw [if_neg Bool.false_ne_true]; exact qb G σ H1 F1 ρ1 Dn S1 g1
theorem AS.expr (h : AE X W e fe) (hs : swapsWith e none pos.line X.env = pure false := by rfl) : AS X W (.Expr e pos) (xDrop fe) := by
  obtain ⟨t, p, q⟩ := h
  exact ⟨_, ps_expr p hs, fun G σ H F ρ Dn S hg => q G σ H F ρ _ S (GoodS.bind hg fun d ρ1 H1 F1 S1 s1 g1 v r1 => g1 σ H1 F1 S1 Sm.refl)⟩
theorem AS.pass : AS X W (.Pass pos) xNx := ⟨_, ps_pass, fun G σ H F ρ Dn S hg => hg σ H F S Sm.refl⟩
theorem AS.doc {x : Str} {j : Nat} {pos' : Pos} : AS X W (.Expr (.Constant (.str x) j pos) pos') xNx := ⟨_, ps_doc, fun G σ H F ρ Dn S hg => hg σ H F S Sm.refl⟩
theorem AS.brk : AS X W (.Break pos) (fun ρ => .ok .bk ρ) := ⟨_, ps_break, fun G σ H F ρ Dn S hg => hg σ H F S Sm.refl⟩
theorem AS.cont : AS X W (.Continue pos) (fun ρ => .ok .ct ρ) := ⟨_, ps_continue, fun G σ H F ρ Dn S hg => hg σ H F S Sm.refl⟩
theorem put_good {K : PySem.W.Frag} {G : Ent} {F : Hp} {σ : St} {sl : List Nat} {t : Tg} {d : D} {ρ : Ro} {Dn : Ends} (hg : GoodS K G W F ((putT t d ρ).bind fun _ ρ => .ok .nx ρ) Dn) (hx : ∀ x ρ', putT t d ρ ≠ .exc x ρ') : GoodT K G F σ sl (putT t d ρ) Dn.nx := by
  cases e : putT t d ρ with
  | ok u ρ1 => rw [e] at hg; exact fun σ' H' F' S s _ => hg σ' H' F' S s
  | exc x ρ1 => exact absurd e (hx x ρ1)
  | stuck => rw [e] at hg; exact hg
mutual
theorem putT_noexc : ∀ (t : Tg) (d : D) (ρ : Ro) (x : Ex) (ρ' : Ro), putT t d ρ ≠ .exc x ρ'
  | .sl i, d, ρ, x, ρ' => by
    unfold putT
    split <;> exact fun h => by cases h
  | .tp ts, .tup xs, ρ, x, ρ' => by
    unfold putT
    split
    · exact putTs_noexc ts xs ρ x ρ'
    · exact fun h => by cases h
  | .tp ts, .non, ρ, x, ρ' => by unfold putT; exact fun h => by cases h
  | .tp ts, .bl _, ρ, x, ρ' => by unfold putT; exact fun h => by cases h
  | .tp ts, .int _, ρ, x, ρ' => by unfold putT; exact fun h => by cases h
  | .tp ts, .str _, ρ, x, ρ' => by unfold putT; exact fun h => by cases h
  | .tp ts, .lst xs, ρ, x, ρ' => by
    unfold putT
    split
    · exact putTs_noexc ts xs ρ x ρ'
    · exact fun h => by cases h
  | .tp ts, .frz _, ρ, x, ρ' => by unfold putT; exact fun h => by cases h
  | .tp ts, .obj _ _ _, ρ, x, ρ' => by unfold putT; exact fun h => by cases h
  | .tp ts, .dct _ _, ρ, x, ρ' => by unfold putT; exact fun h => by cases h
  | .tp ts, .opq _, ρ, x, ρ' => by unfold putT; exact fun h => by cases h
  | .tp ts, .any, ρ, x, ρ' => by unfold putT; exact fun h => by cases h
theorem putTs_noexc : ∀ (ts : List Tg) (ds : List D) (ρ : Ro) (x : Ex) (ρ' : Ro), putTs ts ds ρ ≠ .exc x ρ'
  | [], [], ρ, x, ρ' => by unfold putTs; exact fun h => by cases h
  | [], _ :: _, ρ, x, ρ' => by unfold putTs; exact fun h => by cases h
  | _ :: _, [], ρ, x, ρ' => by unfold putTs; exact fun h => by cases h
  | t :: ts, d :: ds, ρ, x, ρ' => by
    unfold putTs
    cases e : putT t d ρ with
    | ok u ρ1 => exact putTs_noexc ts ds ρ1 x ρ'
    | exc y ρ1 => exact absurd e (putT_noexc t d ρ y ρ1)
    | stuck => exact fun h => by cases h
end
/-- name = e -/
theorem AS.set {i : Nat} {x : Str} {pos' : Pos} (hN : X.N.Nodup) (hi : X.N[i]? = some x) (hx : Loc X.env.scope x) (he : AE X W e fe) (hs : swapsWith e (some (.Name x pos')) pos.line X.env = pure false := by rfl) (hf : X.fn x = true ∨ X.env.scope.names.lookup x = some .local := by first | exact .inl rfl | exact .inr rfl) :
    AS X W (.Assign [.Name x pos'] e pos) (xPut (.sl i) fe) := by
  obtain ⟨t, p, q⟩ := he
  obtain ⟨g, pg, qg⟩ := AG.name (X := X) (pos := pos') hN hi hx hf
  refine ⟨_, ps_set hN hi hx p hs hf, fun G σ H F ρ Dn S hg => q G σ H F ρ _ S (GoodS.bind hg fun d ρ1 H1 F1 S1 s1 g1 v r1 => ?_)⟩
  have h := put_good (σ := σ) (sl := []) g1 (putT_noexc _ _ _)
  unfold putT at h
  split at h
  · exact h.elim
  · rename_i hh
    unfold putT at g1
    rw [if_neg hh] at g1
    exact g1 _ H1 F1 (S1.setVal (by simpa using hh) r1) Sm.refl
/-- a target = e -/
theorem AS.asg {tg : Expr} {t : Tg} (he : AE X W e fe) (hg : AG X tg t) (hs : swapsWithSole [tg] e pos.line X.env = pure false := by rfl) (hw : swappedStores [tg] e X.env = pure none := by rfl) (h1 : (assignEach [tg] X.env).map (·.2) = [assign tg X.env] := by rfl) : AS X W (.Assign [tg] e pos) (xPut t fe) := by
  obtain ⟨te, p, q⟩ := he
  obtain ⟨g, pg, qg⟩ := hg
  exact ⟨_, ps_asg p pg hs hw h1, fun G σ H F ρ Dn S hg => q G σ H F ρ _ S (GoodS.bind hg fun d ρ1 H1 F1 S1 s1 g1 v r1 => qg G σ H1 F1 ρ1 v d Dn.nx S1 r1 (put_good g1 (putT_noexc _ _ _)))⟩
/-- a loop over a list, .. -/
theorem AS.for_ {tg iter : Expr} {body : List Stmt} {fi : M (List D)} {t : Tg} {fb : M Fl} (hp : PassesOwn (model X.prog X.w) X.A X.env X.xe) (hc : X.calm = true) (hi : AI X W tg iter fi) (hg : AG X tg t) (hb : AB X W body fb)
    (hs : ∀ x, foldedSetIterable iter X.env x = pure x := by intro _; rfl) : AS X W (.For tg iter body [] pos) (xFor fi t fb) := by
  obtain ⟨wi, pi, qi⟩ := hi
  obtain ⟨g, pg, qg⟩ := hg
  obtain ⟨tb, pb, qb⟩ := hb
  refine ⟨_, ps_for hp hc pi pg pb hs, fun G σ H F ρ Dn S hgd => qi G σ H F ρ _ S (GoodS.bind hgd fun ds ρ1 H1 F1 S1 s1 g1 J hJ => ?_)⟩
  refine ⟨fun i m σ' H' => i + m = ds.length ∧ ∃ F' ρ', Stt X.K G σ' H' F' ρ' ∧ Sm F1 F' ∧ GoodS X.K G W F' (forM t fb (ds.drop i) ρ') Dn, ⟨ds.length, by omega, F1, ρ1, S1, Sm.refl, by rw [List.drop_zero]; exact g1⟩, ?_⟩
  rintro i m σ' H' ⟨hm, F', ρ', S', s', hgf⟩
  obtain ⟨stop, go⟩ := hJ i H' F' s' S'.sub
  by_cases hlt : i < ds.length
  · rw [List.drop_eq_getElem_cons hlt] at hgf
    obtain ⟨hgo, hy⟩ := go ds[i] (List.getElem?_eq_getElem hlt)
    refine .inr ⟨hgo, fun σ2 H2 => (i + 1) + (m - 1) = ds.length ∧ ∃ F2 ρ2, Stt X.K G σ2 H2 F2 ρ2 ∧ Sm F1 F2 ∧ GoodS X.K G W F2 (forM t fb (ds.drop (i + 1)) ρ2) Dn, fun σ2 H2 hn => ⟨m - 1, by omega, hn⟩, fun x H2 hyl => ?_⟩
    obtain ⟨F2, A2, r2⟩ := hy x H2 hyl
    have S2 := S'.aft A2
    refine qg G σ' H2 F2 ρ' x _ _ S2 r2 ?_
    unfold forM at hgf
    cases e : putT t ds[i] ρ' with
    | ok u ρ3 =>
      rw [e] at hgf
      refine fun σ3 H3 F3 S3 s3 _ => qb G σ3 H3 F3 ρ3 _ S3 ?_
      have hgf := GoodS.mono (A2.f.tr s3) hgf
      have again : ∀ {ρ4 : Ro}, GoodS X.K G W F3 (forM t fb (ds.drop (i + 1)) ρ4) Dn → ∀ σ4 H4 F4, Stt X.K G σ4 H4 F4 ρ4 → Sm F3 F4 → (i + 1) + (m - 1) = ds.length ∧ ∃ F2 ρ2, Stt X.K G σ4 H4 F2 ρ2 ∧ Sm F1 F2 ∧ GoodS X.K G W F2 (forM t fb (ds.drop (i + 1)) ρ2) Dn :=
        fun hq σ4 H4 F4 S4 s4 => ⟨by omega, F4, _, S4, s'.tr (A2.f.tr (s3.tr s4)), GoodS.mono s4 hq⟩
      have hgf : GoodS X.K G W F3 ((fb ρ3).bind fun f ρ => match f with | .nx => forM t fb (ds.drop (i + 1)) ρ | .ct => forM t fb (ds.drop (i + 1)) ρ | .bk => .ok .nx ρ | .rt r => .ok (.rt r) ρ | .rn r => .ok (.rn r) ρ) Dn := hgf
      cases e4 : fb ρ3 with
      | ok f ρ4 =>
        rw [e4] at hgf
        cases f with
        | nx => exact again hgf
        | ct => exact again hgf
        | bk => exact hgf
        | rt d => exact hgf
        | rn d => exact hgf
      | exc x ρ4 => rw [e4] at hgf; exact hgf
      | stuck => rw [e4] at hgf; exact hgf
    | exc y ρ3 => exact absurd e (putT_noexc _ _ _ _ _)
    | stuck => rw [e] at hgf; exact hgf.elim
  · have e0 : ds.drop i = [] := List.drop_eq_nil_of_le (by omega)
    rw [e0] at hgf
    exact .inl ⟨stop (by omega), hgf σ' H' F' S' Sm.refl⟩
end
end Mr
namespace Mr
open PySem PySem.Spec PyProof.Rows L2
variable [Lam] [Pins]

section
variable {X : Cx} {W : WX} {k n : Nat} {f : Addr} {fd : FuncData} {ps : List Str} {sp : Sp} {dvs : List V} {dV : List Value} {dd : List D} {x y : Str} {p py pos : Pos} {e : Expr} {es : List Expr} {fs : M (List D)} {m : List D → FR D} {mi : SV → List D → IR}
theorem run_fnW {pins : List (Addr × Obj)} {σ : St} {H : Hp} {s : Shared} {Q : VK} {us : List Value} {vs : List V} (Fn : FnG X.prog X.w X.K X.mg X.base k f fd ps sp) (hr : RoomG k X.A) (hb : Binds X.K fd ps dV) (hd : Vals dvs dV) (tk : Takes X W)
    (I : Inv X pins σ H s) (r : Vals vs us) (h : sp (vs ++ dvs) H Q (WE W σ)) : wpAny (model X.prog X.w) X.A (call (.ref f) us) (EP X pins σ Q) X.xe s := by
  have r2 := r.append hd
  have hl : (us ++ dV).length = ps.length := r2.length.symm.trans (Fn.len _ _ _ _ h)
  refine wpAny_call (codeAny_mono (Fn.run X.A X.stack s H ⟨us, []⟩ (us ++ dV) (vs ++ dvs) Q (WE W σ) hr I.env0 (hb s us I.kIn hl) r2 h) fun r s' hq => ?_)
  cases r with
  | error e => exact passAt tk σ pins H s e s' I hq
  | ok fl =>
    cases fl with
    | ret u => exact I.after hq
    | _ => exact hq.elim
def tCallW (W : WX) (sp : Sp) (dvs : List V) (t : TA) : TE := fun σ H Q => t σ H fun vs H1 => sp (vs ++ dvs) H1 Q (WE W σ)
theorem pe_callW {ta : TA} (Fn : FnG X.prog X.w X.K X.mg X.base k f fd ps sp) (hr : RoomG k X.A) (hg : Gl X x) (hm : X.mg x = some (.ref f)) (hk : PySem.W.keepIn X.K (.ref f) = true) (hb : Binds X.K fd ps dV) (hd : Vals dvs dV) (tk : Takes X W)
    (ha : PA X (e :: es) ta) (hdb : (x == ("__debug__" : Str)) = false := by decide) (he : starEach (e :: es) X.env = (false, eval e X.env) :: starEach es X.env := by rfl) (hpl : (backTo pos (starEach es X.env)).any (·.1) = false := by rfl) :
    PE X (.Call (.Name x p) (e :: es) [] pos) (tCallW W sp dvs ta) := by
  refine ⟨fun pins s σ H Q I h => ?_⟩
  refine wpAny_Call_Name_kw (ld_glob I hg hm (PySem.W.callWith_K (h₀ := X.base) I.ok.mod.kin hk ?_ he hpl) hdb)
  refine thn (ha.run pos pins s σ H _ I h) fun us s1 ⟨vs, H1, I1, r, q⟩ => ?_
  exact ⟨I1.kIn, run_fnW Fn hr hb hd tk I1 r q⟩
theorem aftGood {G : Ent} {σ : St} {H F : Hp} {ρ : Ro} {r : FR D} {Q : VK} (S : Stt X.K G σ H F ρ) (g : Good X.K G W σ F (r.lift ρ) (PD X.K Q)) : GoodF X.K H F r Q (WE W σ) := by
  cases r with
  | ok d => exact fun v H' F' A rv => g H' F' (S.aft A) A.f v rv
  | exc x => exact fun d H' F' A rv => g d H' F' (S.aft A) A.f rv
  | stuck => exact g
def mCall (m : List D → FR D) (n : Nat) (dd : List D) (fs : M (List D)) : M D := fun ρ => (fs ρ).bind fun ds ρ => (if ds.length + dd.length = n then m (ds ++ dd) else .stuck).lift ρ
/-- f(..) -/
theorem AE.call (Fn : FnG X.prog X.w X.K X.mg X.base k f fd ps (PSp X.K n m)) (hr : RoomG k X.A) (hg : Gl X x) (hm : X.mg x = some (.ref f)) (hk : PySem.W.keepIn X.K (.ref f) = true) (hb : Binds X.K fd ps dV) (hd : Vals dvs dV) (hdd : ∀ K H, Reps K H dvs dd) (tk : Takes X W)
    (ha : AA X W (e :: es) fs) (hdb : (x == ("__debug__" : Str)) = false := by decide) (he : starEach (e :: es) X.env = (false, eval e X.env) :: starEach es X.env := by rfl) (hpl : (backTo pos (starEach es X.env)).any (·.1) = false := by rfl) :
    AE X W (.Call (.Name x p) (e :: es) [] pos) (mCall m n dd fs) := by
  obtain ⟨t, pa, qa⟩ := ha
  refine ⟨_, pe_callW Fn hr hg hm hk hb hd tk pa hdb he hpl, fun G σ H F ρ Q S hgd => qa G σ H F ρ _ S (hgd.bind fun ds ρ1 H1 F1 S1 s1 g1 vs r1 => ?_)⟩
  have g1 : Good X.K G W σ F1 ((if ds.length + dd.length = n then m (ds ++ dd) else FR.stuck).lift ρ1) (PD X.K Q) := g1
  split at g1
  · rename_i hz
    exact ⟨by rw [List.length_append, r1.length, (hdd X.K F1).length]; exact hz, F1, ds ++ dd, S1.pre, r1.append (hdd _ _), aftGood S1 g1⟩
  · exact g1.elim
/-- f(x, ..): x may be changed -/
def SV.flag (b : Bool) : SV → SV
  | .own _ xs => .own b xs
  | .ins _ C ns ds => .ins b C ns ds
  | .dic _ ks ds => .dic b ks ds
  | s => s
def mIo (mi : SV → List D → IR) (n j : Nat) (fs : M (List D)) : M D := fun ρ => if (ρ.getD j .un).isOwn = true then (fs ρ).bind fun ds ρ =>
    if ds.length = n ∧ (ρ.getD j .un).isOwn = true then match mi ((ρ.getD j .un).flag true) ds with
      | .ok d sv => .ok d (ρ.set j (sv.flag (ρ.getD j .un).isIo))
      | .exc x sv => .exc x (ρ.set j (sv.flag (ρ.getD j .un).isIo))
      | .stuck => .stuck
    else .stuck
  else .stuck
theorem SlotOk.flag {K : PySem.W.Frag} {H F : Hp} {s : Option (Option V)} {sv : SV} (b : Bool) (q : SlotOk K H F s sv) : SlotOk K H F s (sv.flag b) := by
  cases sv <;> exact q
theorem flag_io {sv : SV} {b : Bool} (h : sv.isOwn = true) : (sv.flag b).isHd = b ∧ (sv.flag b).isOwn = true := by
  cases sv <;> first | exact ⟨rfl, rfl⟩ | cases h
theorem own_io_hd {sv : SV} (h : sv.isOwn = true) : sv.isIo = sv.isHd := by
  cases sv <;> first | rfl | cases h
theorem AE.callIo {j : Nat} (Fn : FnG X.prog X.w X.K X.mg X.base k f fd ps (ISp X.K n mi)) (hr : RoomG k X.A) (hg : Gl X x) (hm : X.mg x = some (.ref f)) (hk : PySem.W.keepIn X.K (.ref f) = true) (hb : Binds X.K fd ps []) (tk : Takes X W)
    (h0 : PE X (.Name y py) (tVar j)) (ha : AA X W es fs) (hdb : (x == ("__debug__" : Str)) = false := by decide) (he : starEach (.Name y py :: es) X.env = (false, eval (.Name y py) X.env) :: starEach es X.env := by rfl) (hpl : (backTo pos (starEach es X.env)).any (·.1) = false := by rfl) :
    AE X W (.Call (.Name x p) (.Name y py :: es) [] pos) (mIo mi n j fs) := by
  obtain ⟨t, pa, qa⟩ := ha
  refine ⟨_, pe_callW (W := W) Fn hr hg hm hk hb .nil tk (pa_cons h0 pa he) hdb he hpl, fun G σ H F ρ Q S hgd => ?_⟩
  unfold mIo at hgd
  split at hgd
  · rename_i ho
    obtain ⟨a, o, e1, _, _, _⟩ := (S.at_ j).there ho
    refine ⟨_, e1, qa G σ H F ρ _ S (hgd.bind fun ds ρ1 H1 F1 S1 s1 g1 vs r1 => ?_)⟩
    split at g1
    · rename_i hz
      have q := S1.at_ j
      rw [e1] at q
      refine ⟨by rw [List.append_nil, List.length_cons, r1.length, hz.1], F1, a, vs, _, ds, by rw [List.append_nil], S1.pre, q.flag true, (flag_io hz.2).1, r1, ?_⟩
      have back : ∀ {sv : SV} {H' F' : Hp}, AftIo X.K a sv H1 F1 H' F' → Stt X.K G σ H' F' (ρ1.set j (sv.flag (ρ1.getD j .un).isIo)) := fun {sv H' F'} A =>
        S1.change hz.2 e1 A.h A.sub A.f A.new (A.ft S1.ft) (A.at_.flag _) (flag_io (SV.own_of_io A.own)).2 ((flag_io (SV.own_of_io A.own)).1.trans (own_io_hd hz.2))
      cases em : mi ((ρ1.getD j .un).flag true) ds with
      | ok d sv =>
        rw [em] at g1
        exact fun v H' F' A rv => g1 H' F' (back A) A.f v rv
      | exc xx sv =>
        rw [em] at g1
        exact fun d H' F' A rv => g1 d H' F' (back A) A.f rv
      | stuck => rw [em] at g1; exact g1
    · exact g1.elim
  · exact hgd.elim
end

/-- e gives a new list -/
def AN (X : Cx) (W : WX) (e : Expr) (f : M (List D)) : Prop := ∃ t, PE X e t ∧ ∀ G σ H F ρ Q, Stt X.K G σ H F ρ →
  Good X.K G W σ F (f ρ) (fun ds ρ' H' F' => ∀ a vs H2, Stt X.K ⟨G.H0, G.F0, G.io, (a, .lst vs) :: G.xt⟩ σ H2 F' ρ' → Reps X.K F' vs ds → Q (.ref a) H2) → t σ H Q
def mOfN (f : M (List D)) : M D := fun ρ => (f ρ).bind fun ds ρ => .ok (.lst ds) ρ
def mLstN (fs : M (List D)) : M (List D) := fun ρ => (fs ρ).bind fun ds ρ => if ds.length ≤ sizeLine then .ok ds ρ else .stuck
/-- x = a new list, changed later -/
def xOwn (i : Nat) (f : M (List D)) : M Fl := fun ρ => (f ρ).bind fun ds ρ => if (ρ.getD i .un).isIo = true then .stuck else .ok .nx (ρ.set i (.own false ds))
/-- x[e] -/
def mIxN (j : Nat) (fe : M D) : M D := fun ρ => match ρ.getD j .un with
  | .own _ _ => (fe ρ).bind fun i ρ => match ρ.getD j .un, i with
    | .own _ xs, .int k => match atI xs k with
      | some d => .ok d ρ
      | none => .stuck
    | _, _ => .stuck
  | .val d => (fe ρ).bind fun i ρ => (ixD d i).lift ρ
  | _ => .stuck
/-- x[e] = v -/
def xSetIx (j : Nat) (fv fe : M D) : M Fl := fun ρ => (fv ρ).bind fun v ρ => match ρ.getD j .un with
  | .own _ _ => (fe ρ).bind fun i ρ => match ρ.getD j .un, i with
    | .own p xs, .int k => match ixN xs.length k with
      | some n => .ok .nx (ρ.set j (.own p (xs.set n v)))
      | none => .stuck
    | _, _ => .stuck
  | _ => .stuck
/-- x.append(e) -/
def mApp (j : Nat) (fe : M D) : M D := fun ρ => match ρ.getD j .un with
  | .own _ _ => (fe ρ).bind fun v ρ => match ρ.getD j .un with
    | .own p xs => if xs.length < sizeLine then .ok .non (ρ.set j (.own p (xs ++ [v]))) else .stuck
    | _ => .stuck
  | _ => .stuck
/-- len(x) -/
def mLenN (j : Nat) : M D := fun ρ => match ρ.getD j .un with
  | .own _ xs => .ok (.int xs.length) ρ
  | .val d => (lenD [d]).lift ρ
  | _ => .stuck
section
variable {X : Cx} {W : WX} {e b : Expr} {es : List Expr} {fs : M (List D)} {fe fv : M D} {pos py : Pos} {y x : Str}
theorem AE.ofN (h : AN X W e fs) : AE X W e (mOfN fs) := by
  obtain ⟨t, p, q⟩ := h
  refine ⟨_, p, fun G σ H F ρ Q S hg => q G σ H F ρ Q S (hg.bind fun ds ρ1 H1 F1 S1 s1 g1 a vs H2 S2 r => ?_)⟩
  obtain ⟨S3, s3⟩ := S2.xtFreeze
  exact g1 H2 _ S3 s3 _ (.lst upd_same (r.mono s3))
theorem AN.lst (h : AA X W es fs) : AN X W (.List es pos) (mLstN fs) := by
  obtain ⟨t, p, q⟩ := h
  refine ⟨_, pe_lst p, fun G σ H F ρ Q S hg => q G σ H F ρ _ S (hg.bind fun ds ρ1 H1 F1 S1 s1 g1 vs r1 => ?_)⟩
  by_cases hz : ds.length ≤ sizeLine
  · rw [if_pos hz] at g1
    exact ⟨by rw [r1.length]; exact hz, fun a ha => g1 H1 F1 S1 Sm.refl a vs _ (S1.xtNew ha) r1⟩
  · rw [if_neg hz] at g1; exact g1.elim
def mCallN (m : List D → FR (List D)) (n : Nat) (fs : M (List D)) : M (List D) := fun ρ => (fs ρ).bind fun ds ρ => (if ds.length = n then m ds else .stuck).lift ρ
theorem AN.call {k n : Nat} {f : Addr} {fd : FuncData} {ps : List Str} {m : List D → FR (List D)} {p : Pos} (Fn : FnG X.prog X.w X.K X.mg X.base k f fd ps (NSp X.K n m)) (hr : RoomG k X.A) (hg : Gl X x) (hm : X.mg x = some (.ref f)) (hk : PySem.W.keepIn X.K (.ref f) = true) (hb : Binds X.K fd ps []) (tk : Takes X W)
    (ha : AA X W (e :: es) fs) (hdb : (x == ("__debug__" : Str)) = false := by decide) (he : starEach (e :: es) X.env = (false, eval e X.env) :: starEach es X.env := by rfl) (hpl : (backTo pos (starEach es X.env)).any (·.1) = false := by rfl) :
    AN X W (.Call (.Name x p) (e :: es) [] pos) (mCallN m n fs) := by
  obtain ⟨t, pa, qa⟩ := ha
  refine ⟨_, pe_callW Fn hr hg hm hk hb .nil tk pa hdb he hpl, fun G σ H F ρ Q S hgd => qa G σ H F ρ _ S (hgd.bind fun ds ρ1 H1 F1 S1 s1 g1 vs r1 => ?_)⟩
  split at g1
  · rename_i hz
    refine ⟨by rw [List.append_nil, r1.length]; exact hz, F1, ds, S1.pre, by rw [List.append_nil]; exact r1, ?_⟩
    cases em : m ds with
    | ok xs =>
      rw [em] at g1
      exact fun a ws H' F' A h rw_ => g1 H' F' (S1.aft A) A.f a ws H' (S1.xtAdd A.h A.sub A.f A.new (A.ft S1.ft) h.1 h.2.1 h.2.2) rw_
    | exc xx =>
      rw [em] at g1
      exact fun d H' F' A rv => g1 d H' F' (S1.aft A) A.f rv
    | stuck => rw [em] at g1; exact g1
  · exact g1.elim
/-- return a new list -/
def xRetN (f : M (List D)) : M Fl := fun ρ => (f ρ).bind fun ds ρ => .ok (.rn ds) ρ
theorem AS.retNew (h : AN X W e fs) : AS X W (.Return (some e) pos) (xRetN fs) := by
  obtain ⟨t, p, q⟩ := h
  exact ⟨_, ps_ret p, fun G σ H F ρ Dn S hg => q G σ H F ρ _ S (GoodS.bind hg fun ds ρ1 H1 F1 S1 s1 g1 a vs H2 S2 r => g1 a vs σ H2 F1 S2 Sm.refl r)⟩
theorem AS.own {i : Nat} {pos' : Pos} (hN : X.N.Nodup) (hi : X.N[i]? = some x) (hx : Loc X.env.scope x) (he : AN X W e fs) (hs : swapsWith e (some (.Name x pos')) pos.line X.env = pure false := by rfl) (hf : X.fn x = true ∨ X.env.scope.names.lookup x = some .local := by first | exact .inl rfl | exact .inr rfl) :
    AS X W (.Assign [.Name x pos'] e pos) (xOwn i fs) := by
  obtain ⟨t, p, q⟩ := he
  refine ⟨_, ps_set hN hi hx p hs hf, fun G σ H F ρ Dn S hg => q G σ H F ρ _ S (GoodS.bind hg fun ds ρ1 H1 F1 S1 s1 g1 a vs H2 S2 r => ?_)⟩
  split at g1
  · exact g1.elim
  · rename_i hh
    obtain ⟨e1, e2, _, _⟩ := S2.xt (a, .lst vs) (List.mem_cons_self ..)
    exact g1 _ H2 F1 (S2.xtSlot (by simpa using hh) ⟨a, vs, rfl, e1, e2, r⟩ rfl) Sm.refl
theorem own_at {K : PySem.W.Frag} {G : Ent} {σ : St} {H F : Hp} {ρ : Ro} {j : Nat} {p : Bool} {xs : List D} (S : Stt K G σ H F ρ) (h : ρ.getD j .un = .own p xs) : ∃ a vs, σ[j]? = some (some (V.ref a)) ∧ H a = some (.lst vs) ∧ F a = none ∧ Reps K F vs xs := by
  have q := S.at_ j
  rw [h] at q
  exact q
theorem AE.ixN {j : Nat} (h0 : PE X (.Name y py) (tVar j)) (hb : AE X W b fe) (hs : PlainIx b := by exact fun _ _ => rfl) : AE X W (.Subscript (.Name y py) b pos) (mIxN j fe) := by
  obtain ⟨tb, pb, qb⟩ := hb
  refine ⟨_, pe_ix (IxR.or ix_list (IxR.or ix_tup ix_str)) h0 pb hs, fun G σ H F ρ Q S hg => ?_⟩
  unfold mIxN at hg
  cases e : ρ.getD j .un with
  | own p xs =>
    rw [e] at hg
    obtain ⟨a, vs, e1, e2, e3, r⟩ := own_at S e
    refine ⟨_, e1, qb G σ H F ρ _ S (hg.bind fun di ρ1 H1 F1 S1 s1 g1 u ru => ?_)⟩
    split at g1
    · rename_i p1 ys k e4
      obtain ⟨a', ws, f1, f2, f3, r'⟩ := own_at S1 e4
      rw [e1] at f1; cases f1
      cases ru
      split at g1
      · rename_i d hd
        obtain ⟨w, ew, rw_⟩ := reps_at r' hd
        exact .inl ⟨a, ws, k, w, rfl, rfl, .of f2, ew, g1 H1 F1 S1 Sm.refl _ rw_⟩
      · exact g1.elim
    · exact g1.elim
  | val d =>
    rw [e] at hg
    have q := S.at_ j
    rw [e] at q
    obtain ⟨v, e1, r1⟩ := q
    refine ⟨v, e1, qb G σ H F ρ _ S (hg.bind fun dy ρ2 H2 F2 S2 s2 g2 u r2 => ?_)⟩
    have r1 := r1.mono s2
    cases r2 with
    | int i =>
      cases r1 with
      | str z =>
        simp only [ixD] at g2
        split at g2
        · rename_i hz
          split at g2
          · rename_i c hc
            exact .inr (.inr ⟨z, i, c, rfl, rfl, hz, hc, g2 H2 F2 S2 Sm.refl _ (.str _)⟩)
          · exact g2.elim
        · exact g2.elim
      | tup hx rx =>
        simp only [ixD] at g2
        split at g2
        · rename_i d hd
          obtain ⟨w, e1, rw_⟩ := reps_at rx hd
          exact .inr (.inl ⟨_, _, i, w, rfl, rfl, SqTm S2.sub hx, e1, g2 H2 F2 S2 Sm.refl _ rw_⟩)
        · exact g2.elim
      | lst hx rx =>
        simp only [ixD] at g2
        split at g2
        · rename_i d hd
          obtain ⟨w, e1, rw_⟩ := reps_at rx hd
          exact .inl ⟨_, _, i, w, rfl, rfl, .of (S2.sub _ _ hx), e1, g2 H2 F2 S2 Sm.refl _ rw_⟩
        · exact g2.elim
      | frz hx rx =>
        simp only [ixD] at g2
        split at g2
        · rename_i d hd
          obtain ⟨w, e1, rw_⟩ := reps_at rx hd
          exact .inl ⟨_, _, i, w, rfl, rfl, SqLm S2.sub hx, e1, g2 H2 F2 S2 Sm.refl _ rw_⟩
        · exact g2.elim
      | _ => exact g2.elim
    | _ => exact (by cases d <;> exact g2.elim)
  | un => rw [e] at hg; exact hg.elim
  | ins p C ns ds => rw [e] at hg; exact hg.elim
  | dic p ks ds => rw [e] at hg; exact hg.elim
  | pin => rw [e] at hg; exact hg.elim
theorem AE.lenN {j : Nat} {px : Pos} (h0 : PE X (.Name y py) (tVar j)) (hg : Gl X "len") (hm : X.mg "len" = none) (he : starEach [.Name y py] X.env = (false, eval (.Name y py) X.env) :: starEach [] X.env := by rfl) (hpl : (backTo pos (starEach [] X.env)).any (·.1) = false := by rfl) : AE X W (.Call (.Name "len" px) [.Name y py] [] pos) (mLenN j) := by
  refine ⟨_, pe_callB call_len hg hm PySem.boot_len (pa_cons h0 pa_nil he) (by decide) (by decide) he hpl, fun G σ H F ρ Q S hgd => ?_⟩
  unfold mLenN at hgd
  cases e : ρ.getD j .un with
  | own p xs =>
    rw [e] at hgd
    obtain ⟨a, vs, e1, e2, e3, r⟩ := own_at S e
    exact ⟨_, e1, _, xs.length, rfl, .inl ⟨vs, .of e2, r.length.symm⟩, hgd H F S Sm.refl _ (.int _)⟩
  | val d =>
    rw [e] at hgd
    have q := S.at_ j
    rw [e] at q
    obtain ⟨v, e1, r1⟩ := q
    refine ⟨v, e1, ?_⟩
    cases r1 with
    | str z =>
      simp only [lenD] at hgd
      split at hgd
      · rename_i hz; exact ⟨_, z.length, rfl, ⟨hz, rfl⟩, hgd H F S Sm.refl _ (.int _)⟩
      · exact hgd.elim
    | tup hx rx => exact ⟨_, _, rfl, .inr ⟨_, SqTm S.sub hx, rx.length.symm⟩, hgd H F S Sm.refl _ (.int _)⟩
    | lst hx rx => exact ⟨_, _, rfl, .inl ⟨_, .of (S.sub _ _ hx), rx.length.symm⟩, hgd H F S Sm.refl _ (.int _)⟩
    | frz hx rx => exact ⟨_, _, rfl, .inl ⟨_, SqLm S.sub hx, rx.length.symm⟩, hgd H F S Sm.refl _ (.int _)⟩
    | _ => exact hgd.elim
  | un => rw [e] at hgd; exact hgd.elim
  | ins p C ns ds => rw [e] at hgd; exact hgd.elim
  | dic p ks ds => rw [e] at hgd; exact hgd.elim
  | pin => rw [e] at hgd; exact hgd.elim
theorem AS.setIx {j : Nat} {p1 : Pos} (hv : AE X W e fv) (h0 : PE X (.Name y py) (tVar j)) (hb : AE X W b fe)
    (hs : swapsWithSole [.Subscript (.Name y py) b p1] e pos.line X.env = pure false := by rfl) (hw : swappedStores [.Subscript (.Name y py) b p1] e X.env = pure none := by rfl) (h1 : (assignEach [.Subscript (.Name y py) b p1] X.env).map (·.2) = [assign (.Subscript (.Name y py) b p1) X.env] := by rfl)
    (ha : ∀ v, assign (.Subscript (.Name y py) b p1) X.env v = (do
      let ov ← holding [v] (eval (.Name y py) X.env)
      let iv ← holding [v, ov] (eval b X.env)
      standAt p1
      holding [v, ov, iv] (setItem ov iv v)
      release [v, ov, iv] []) := by intro _; rfl) : AS X W (.Assign [.Subscript (.Name y py) b p1] e pos) (xSetIx j fv fe) := by
  obtain ⟨tv, pv, qv⟩ := hv
  obtain ⟨tb, pb, qb⟩ := hb
  refine ⟨_, ps_asg pv (pg_sub h0 pb set_list ha) hs hw h1, fun G σ H F ρ Dn S hg => qv G σ H F ρ _ S (GoodS.bind hg fun dv ρ1 H1 F1 S1 s1 g1 v rv => ?_)⟩
  split at g1
  · rename_i p xs e1
    obtain ⟨a, vs, e2, e3, e4, r⟩ := own_at S1 e1
    refine ⟨_, e2, qb G σ H1 F1 ρ1 _ S1 (GoodS.bind g1 fun di ρ2 H2 F2 S2 s2 g2 u ru => ?_)⟩
    split at g2
    · rename_i p2 ys k e5
      obtain ⟨a', ws, f1, f2, f3, r'⟩ := own_at S2 e5
      rw [e2] at f1; cases f1
      cases ru
      split at g2
      · rename_i m hm
        refine ⟨a, ws, k, m, rfl, rfl, f2, by rw [r'.length]; exact hm, ?_⟩
        refine g2 σ _ F2 (S2.change (by rw [e5]; rfl) e2 (S2.own_upd (by rw [e5]; rfl) e2) (fun b o h => ?_) Sm.refl (fun _ _ h => .inl h) S2.ft ⟨a, ws.set m v, rfl, upd_same, f3, r'.set (rv.mono s2) m⟩ rfl (by rw [e5]; rfl)) Sm.refl
        by_cases eb : b = a
        · subst eb; rw [f3] at h; cases h
        · rw [upd_ne eb]; exact S2.sub b o h
      · exact g2.elim
    · exact g2.elim
  · exact g1.elim
theorem AE.app {j : Nat} {ap cp : Pos} (h0 : PE X (.Name y py) (tVar j)) (ha : AE X W e fe) (hst : starEach [e] X.env = (false, eval e X.env) :: starEach [] X.env := by rfl)
    (hbase : attributeBase (.Name y py) "append" X.env (eval (.Name y py) X.env) = eval (.Name y py) X.env := by rfl)
    (hfew : ((backTo cp (starEach [e] X.env)).all (fun x => !x.1) && (backToKw cp (keywordEach [] X.env)).all (fun x => x.1.isSome)
      && decide ([e].length + ([] : List Keyword).length + (if ([] : List Keyword).isEmpty then 0 else 1) < 30)) = true := by rfl)
    (hline : (ap.endLine == cp.line) = true := by rfl) (hplain : (backTo cp (starEach [] X.env)).any (·.1) = false := by rfl) :
    AE X W (.Call (.Attribute (.Name y py) "append" ap) [e] [] cp) (mApp j fe) := by
  obtain ⟨t, p, q⟩ := ha
  refine ⟨_, pe_bm PySem.F.plainAttrs_list PySem.F.slot_list_append PySem.F.type_list_append mt_append h0 (pa_cons p pa_nil hst) hbase hfew hline hst hplain, fun G σ H F ρ Q S hg => ?_⟩
  unfold mApp at hg
  split at hg
  · rename_i p0 xs0 e0
    obtain ⟨a, vs, e1, e2, e3, r⟩ := own_at S e0
    refine ⟨_, e1, .inl ⟨rfl, vs, .of e2⟩, q G σ H F ρ _ S (hg.bind fun v ρ1 H1 F1 S1 s1 g1 w rw_ => ?_)⟩
    split at g1
    · rename_i p1 xs e4
      obtain ⟨a', ws, f1, f2, f3, r'⟩ := own_at S1 e4
      rw [e1] at f1; cases f1
      split at g1
      · rename_i hz
        refine ⟨a, ws, w, rfl, rfl, f2, by rw [r'.length]; exact hz, ?_⟩
        refine g1 _ F1 (S1.change (by rw [e4]; rfl) e1 (S1.own_upd (by rw [e4]; rfl) e1) (fun b o h => ?_) Sm.refl (fun _ _ h => .inl h) S1.ft ⟨a, _, rfl, upd_same, f3, r'.append (.cons rw_ .nil)⟩ rfl (by rw [e4]; rfl)) Sm.refl _ .non
        by_cases eb : b = a
        · subst eb; rw [f3] at h; cases h
        · rw [upd_ne eb]; exact S1.sub b o h
      · exact g1.elim
    · exact g1.elim
  · exact hg.elim
end

section
variable {X : Cx} {W : WX}
end

def wipeR (ρ : Ro) : List Nat → Ro
  | [] => ρ
  | v :: vs => (wipeR ρ vs).set v .un
/-- the slots vs as they stood ahead -/
def backR (ρ0 : Ro) (ρ : Ro) : List Nat → Ro
  | [] => ρ
  | v :: vs => (backR ρ0 ρ vs).set v (ρ0.getD v .un)
def freeR (ρ : Ro) (vs : List Nat) : Bool := vs.all fun v => !(ρ.getD v .un).isIo
def plainR (ρ : Ro) (vs : List Nat) : Bool := vs.all fun v => !(ρ.getD v .un).isFar
def lcM (vs : List Nat) (t : Tg) (c : M Bool) (el : M D) : List D → List D → Ro → R (List D)
  | [], acc, ρ => .ok acc ρ
  | d :: ds, acc, ρ => if plainR ρ vs = true then (putT t d (wipeR ρ vs)).bind fun _ ρ1 => (c ρ1).bind fun k ρ2 =>
      if k = true then (el ρ2).bind fun y ρ3 => if acc.length < sizeLine ∧ freeR ρ3 vs = true then lcM vs t c el ds (acc ++ [y]) (backR ρ ρ3 vs) else .stuck
      else if freeR ρ2 vs = true then lcM vs t c el ds acc (backR ρ ρ2 vs) else .stuck
    else .stuck
/-- no exception leaves -/
def R.nox {α : Type} (r : R α) : R α := match r with
  | .ok a ρ => .ok a ρ
  | _ => .stuck
def mLc (it : M (List D)) (vs : List Nat) (t : Tg) (c : M Bool) (el : M D) : M (List D) := fun ρ => (it ρ).bind fun ds ρ => (lcM vs t c el ds [] ρ).nox
def tYesM : M Bool := fun ρ => .ok true ρ
abbrev W0 : WX := fun _ _ _ _ => False
def ATs (X : Cx) (W : WX) (es : List Expr) (f : M Bool) : Prop := ∃ t, PTs X es t ∧ ∀ G σ H F ρ Q, Stt X.K G σ H F ρ → Good X.K G W σ F (f ρ) (PB Q) → t σ H Q
end Mr
namespace Mr
open PySem PySem.Spec PyProof.Rows L2
variable [Lam] [Pins]

theorem getD_wipe (ρ : Ro) : ∀ (vs : List Nat) (i : Nat), (wipeR ρ vs).getD i .un = if i ∈ vs then .un else ρ.getD i .un
  | [], i => by simp [wipeR]
  | v :: vs, i => by
    unfold wipeR
    rw [getD_set, getD_wipe ρ vs i]
    by_cases h : v = i
    · subst h
      by_cases l : v < (wipeR ρ vs).length
      · simp [l]
      · rw [if_neg (fun c => l c.2)]
        simp only [List.mem_cons, true_or, if_true]
        split
        · rfl
        · rename_i hm
          have hl : ∀ vs : List Nat, (wipeR ρ vs).length = ρ.length := fun vs => by
            induction vs with
            | nil => rfl
            | cons a r ih => unfold wipeR; rw [List.length_set, ih]
          rw [hl] at l
          rw [List.getD_eq_getElem?_getD, List.getElem?_eq_none (by omega)]; rfl
    · rw [if_neg (fun c => h c.1)]
      simp [List.mem_cons, Ne.symm h]
theorem get_wipe (σ : St) : ∀ (vs : List Nat) (i : Nat), i ∉ vs → (wipe σ vs)[i]? = σ[i]?
  | [], i, _ => rfl
  | v :: vs, i, h => by
    unfold wipe
    rw [List.getElem?_set_ne (fun e => h (by simp [e])), get_wipe σ vs i (fun hm => h (List.mem_cons_of_mem _ hm))]
theorem wipe_same {σ τ : St} : ∀ (vs : List Nat), σ.length = τ.length → (∀ i, i ∉ vs → σ[i]? = τ[i]?) → wipe σ vs = wipe τ vs := fun vs hl h => by
  apply List.ext_getElem?
  intro i
  by_cases hi : i ∈ vs
  · have key : ∀ (α : St) (vs : List Nat), i ∈ vs → (wipe α vs)[i]? = if i < α.length then some none else none := fun α vs => by
      induction vs with
      | nil => intro h; cases h
      | cons v r ih =>
        intro h
        unfold wipe
        rw [get_setσ, wipe_length]
        by_cases hv : v = i
        · subst hv
          by_cases l : v < α.length
          · simp [l]
          · rw [if_neg (fun c => l c.2), if_neg l, List.getElem?_eq_none (by rw [wipe_length]; omega)]
        · rw [if_neg (fun c => hv c.1)]
          exact ih ((List.mem_cons.mp h).resolve_left (Ne.symm hv))
    rw [key σ vs hi, key τ vs hi, hl]
  · rw [get_wipe σ vs i hi, get_wipe τ vs i hi, h i hi]
section
variable {K : PySem.W.Frag} {G : Ent} {σ σ2 : St} {H F : Hp} {ρ ρ2 : Ro}
/-- the block's own slots are forgotten -/
theorem Stt.wiped (S : Stt K G σ H F ρ) : ∀ (vs : List Nat), (∀ v ∈ vs, (ρ.getD v .un).isIo = false) → Stt K G (wipe σ vs) H F (wipeR ρ vs)
  | [], _ => S
  | v :: vs, h => by
    have ih := Stt.wiped S vs fun u hu => h u (List.mem_cons_of_mem _ hu)
    refine ih.drop (i := v) (v := none) ?_
    rw [getD_wipe]
    split
    · rfl
    · exact h v (List.mem_cons_self ..)
/-- .. and stand again as they stood -/
theorem Stt.backed {ρ0 : Ro} (S : Stt K G σ2 H F ρ2) (hl : σ.length = σ2.length) : ∀ (vs ws : List Nat), (∀ v ∈ vs, (ρ2.getD v .un).isIo = false) → (∀ v ∈ vs, (ρ0.getD v .un).isFar = false ∧ SlotOk K H F (σ[v]?) (ρ0.getD v .un)) →
    ∃ τ, Stt K G τ H F (backR ρ0 ρ2 vs) ∧ (∀ i, i ∉ vs → τ[i]? = σ2[i]?) ∧ (∀ i ∈ vs, τ[i]? = σ[i]?) ∧ τ.length = σ2.length
  | [], _, _, _ => ⟨σ2, S, fun _ _ => rfl, fun _ h => (nomatch h), rfl⟩
  | v :: vs, ws, h1, h2 => by
    obtain ⟨τ, S1, o1, o2, l1⟩ := Stt.backed S hl vs ws (fun u hu => h1 u (List.mem_cons_of_mem _ hu)) fun u hu => h2 u (List.mem_cons_of_mem _ hu)
    obtain ⟨no, ok⟩ := h2 v (List.mem_cons_self ..)
    have hio : ((backR ρ0 ρ2 vs).getD v .un).isIo = false := by
      have key : ∀ ws : List Nat, (∀ u ∈ ws, (ρ0.getD u .un).isFar = false) → ((backR ρ0 ρ2 ws).getD v .un).isIo = false := fun ws => by
        induction ws with
        | nil => intro _; exact h1 v (List.mem_cons_self ..)
        | cons u r ih =>
          intro hw
          unfold backR
          rw [getD_set]
          split
          · exact SV.far_io (hw u (List.mem_cons_self ..))
          · exact ih fun x hx => hw x (List.mem_cons_of_mem _ hx)
      exact key vs fun u hu => (h2 u (List.mem_cons_of_mem _ hu)).1
    have hio2 : (ρ0.getD v .un).isIo = false := SV.far_io no
    by_cases hv : v < τ.length
    · obtain ⟨x, hx⟩ : ∃ x, σ[v]? = some x := ⟨_, List.getElem?_eq_getElem (by omega)⟩
      rw [hx] at ok
      refine ⟨τ.set v x, S1.set hio ok hio2 (fun hh => by rw [SV.far_own no] at hh; cases hh), fun i hi => ?_, fun i hi => ?_, by rw [List.length_set, l1]⟩
      · rw [List.getElem?_set_ne (fun e => hi (by simp [e]))]
        exact o1 i fun hm => hi (List.mem_cons_of_mem _ hm)
      · by_cases e : v = i
        · subst e; rw [List.getElem?_set_self hv, hx]
        · rw [List.getElem?_set_ne e]
          exact o2 i ((List.mem_cons.mp hi).resolve_left (Ne.symm e))
    · have hs : (backR ρ0 ρ2 vs).set v (ρ0.getD v .un) = backR ρ0 ρ2 vs := List.set_eq_of_length_le (by rw [S1.len]; omega)
      refine ⟨τ, by unfold backR; rw [hs]; exact S1, fun i hi => o1 i fun hm => hi (List.mem_cons_of_mem _ hm), fun i hi => ?_, l1⟩
      by_cases e : v = i
      · subst e; rw [List.getElem?_eq_none (by omega), List.getElem?_eq_none (by omega)]
      · exact o2 i ((List.mem_cons.mp hi).resolve_left (Ne.symm e))
end
mutual
theorem len_putT : ∀ (t : Tg) (d : D) (ρ ρ' : Ro) (u : Unit), putT t d ρ = .ok u ρ' → ρ'.length = ρ.length
  | .sl i, d, ρ, ρ', u, h => by
    unfold putT at h
    split at h
    · cases h
    · cases h; rw [List.length_set]
  | .tp ts, .tup xs, ρ, ρ', u, h => by
    unfold putT at h
    split at h
    · exact len_putTs ts xs ρ ρ' u h
    · cases h
  | .tp ts, .non, ρ, ρ', u, h => by unfold putT at h; cases h
  | .tp ts, .bl _, ρ, ρ', u, h => by unfold putT at h; cases h
  | .tp ts, .int _, ρ, ρ', u, h => by unfold putT at h; cases h
  | .tp ts, .str _, ρ, ρ', u, h => by unfold putT at h; cases h
  | .tp ts, .lst xs, ρ, ρ', u, h => by
    unfold putT at h
    split at h
    · exact len_putTs ts xs ρ ρ' u h
    · cases h
  | .tp ts, .frz _, ρ, ρ', u, h => by unfold putT at h; cases h
  | .tp ts, .obj _ _ _, ρ, ρ', u, h => by unfold putT at h; cases h
  | .tp ts, .dct _ _, ρ, ρ', u, h => by unfold putT at h; cases h
  | .tp ts, .opq _, ρ, ρ', u, h => by unfold putT at h; cases h
  | .tp ts, .any, ρ, ρ', u, h => by unfold putT at h; cases h
theorem len_putTs : ∀ (ts : List Tg) (ds : List D) (ρ ρ' : Ro) (u : Unit), putTs ts ds ρ = .ok u ρ' → ρ'.length = ρ.length
  | [], [], ρ, ρ', u, h => by unfold putTs at h; cases h; rfl
  | [], _ :: _, ρ, ρ', u, h => by unfold putTs at h; cases h
  | _ :: _, [], ρ, ρ', u, h => by unfold putTs at h; cases h
  | t :: ts, d :: ds, ρ, ρ', u, h => by
    unfold putTs at h
    cases e : putT t d ρ with
    | ok v ρ1 =>
      rw [e] at h
      rw [len_putTs ts ds ρ1 ρ' u h, len_putT t d ρ ρ1 v e]
    | exc y ρ1 => rw [e] at h; cases h
    | stuck => rw [e] at h; cases h
end
theorem not_own_io {sv : SV} (h : sv.isFar = false) : sv.isIo = false := SV.far_io h
section
variable {X : Cx} {W : WX} {elt tg iter c : Expr} {ifs : List Expr} {scope : Scope} {own : List (Str × Nat)} {pos : Pos} {it : M (List D)} {t : Tg} {tc : M Bool} {el : M D}
theorem ATs.nil : ATs X W [] tYesM := ⟨_, pts_nil, fun G σ H F ρ Q S hg => hg H F S Sm.refl⟩
theorem ATs.one (h : AT X W c tc) : ATs X W [c] tc := by
  obtain ⟨u, p, q⟩ := h
  exact ⟨_, pts_one p, q⟩
/-- the context of the block -/
abbrev blkX (X : Cx) (scope : Scope) (s : Shared) (H : Hp) (C : Addr) (cl : List (Str × Addr)) (fp : List Addr) : Cx := X.blk s H scope (compEnvC scope cl C X.env) fp
/-- the readings of a comprehension's parts, and what they are worth -/
theorem lc_parts (hi : AI X W tg iter it) (hsl : ∀ i ∈ slT t, i ∈ own.map (·.2))
    (hg : ∀ s H C cl fp, AG (blkX X scope s H C cl fp) tg t) (ht : ∀ s H C cl fp, ATs (blkX X scope s H C cl fp) W0 ifs tc) (he : ∀ s H C cl fp, AE (blkX X scope s H C cl fp) W0 elt el) :
    ∃ wi g tt te, PI X tg iter wi ∧ (∀ s H C cl fp, PG (blkX X scope s H C cl fp) tg g) ∧ (∀ s H C cl fp, PTs (blkX X scope s H C cl fp) ifs tt) ∧ (∀ s H C cl fp, PE (blkX X scope s H C cl fp) elt te) ∧
      ∀ G σ H F ρ Q, Stt X.K G σ H F ρ → Good X.K G W σ F (mLc it (own.map (·.2)) t tc el ρ) (fun ds ρ' H' F' => ∀ a vs H2, Stt X.K ⟨G.H0, G.F0, G.io, (a, .lst vs) :: G.xt⟩ σ H2 F' ρ' → Reps X.K F' vs ds → Q (.ref a) H2) → tLc wi g tt te (own.map (·.2)) σ H Q := by
  obtain ⟨wi, pi, qi⟩ := hi
  -- one reading for every block
  let g : TG := fun v σ H Q => ∀ s H0 C cl fp, (Classical.choose (hg s H0 C cl fp)) v σ H Q
  let tt : TT := fun σ H Q => ∀ s H0 C cl fp, (Classical.choose (ht s H0 C cl fp)) σ H Q
  let te : TE := fun σ H Q => ∀ s H0 C cl fp, (Classical.choose (he s H0 C cl fp)) σ H Q
  have pg : ∀ s H C cl fp, PG (blkX X scope s H C cl fp) tg g := fun s H C cl fp => ⟨fun pins s1 σ H1 v u Q I r h => (Classical.choose_spec (hg s H C cl fp)).1.run pins s1 σ H1 v u Q I r (h s H C cl fp)⟩
  have pt : ∀ s H C cl fp, PTs (blkX X scope s H C cl fp) ifs tt := fun s H C cl fp => ⟨fun pins s1 σ H1 Q I h => (Classical.choose_spec (ht s H C cl fp)).1.run pins s1 σ H1 Q I (h s H C cl fp)⟩
  have pe : ∀ s H C cl fp, PE (blkX X scope s H C cl fp) elt te := fun s H C cl fp => ⟨fun pins s1 σ H1 Q I h => (Classical.choose_spec (he s H C cl fp)).1.run pins s1 σ H1 Q I (h s H C cl fp)⟩
  have qg : ∀ G σ H F ρ v d Q, Stt X.K G σ H F ρ → Rep X.K F v d → GoodT X.K G F σ (slT t) (putT t d ρ) Q → g v σ H Q := fun G σ H F ρ v d Q S r h s H0 C cl fp => (Classical.choose_spec (hg s H0 C cl fp)).2 G σ H F ρ v d Q S r h
  have qt : ∀ G σ H F ρ Q, Stt X.K G σ H F ρ → Good X.K G W0 σ F (tc ρ) (PB Q) → tt σ H Q := fun G σ H F ρ Q S h s H0 C cl fp => (Classical.choose_spec (ht s H0 C cl fp)).2 G σ H F ρ Q S h
  have qe : ∀ G σ H F ρ Q, Stt X.K G σ H F ρ → Good X.K G W0 σ F (el ρ) (PD X.K Q) → te σ H Q := fun G σ H F ρ Q S h s H0 C cl fp => (Classical.choose_spec (he s H0 C cl fp)).2 G σ H F ρ Q S h
  refine ⟨wi, g, tt, te, pi, pg, pt, pe, fun G σ H F ρ Q S hgd => qi G σ H F ρ _ S (hgd.bind fun ds ρ1 H1 F1 S1 s1 g1 J hJ Da hDa => ?_)⟩
  generalize hvs : own.map (·.2) = vs at hsl g1 ⊢
  -- the list at Da waits
  let GX : List V → Ent := fun ws => ⟨G.H0, G.F0, G.io, (Da, .lst ws) :: G.xt⟩
  refine ⟨fun i m H' => i + m = ds.length ∧ ∃ F' ρ' ws acc, Stt X.K (GX ws) σ H' F' ρ' ∧ Sm F1 F' ∧ Reps X.K F' ws acc ∧ Good X.K G W σ F' ((lcM vs t tc el (ds.drop i) acc ρ').nox) (fun ds ρ' H' F' => ∀ a vs H2, Stt X.K ⟨G.H0, G.F0, G.io, (a, .lst vs) :: G.xt⟩ σ H2 F' ρ' → Reps X.K F' vs ds → Q (.ref a) H2),
    ⟨ds.length, by omega, F1, ρ1, [], [], S1.xtNew hDa, Sm.refl, .nil, by rw [List.drop_zero]; exact g1⟩, ?_⟩
  rintro i m H' ⟨hm, F', ρ', ws, acc, S', s', ra, hgf⟩
  obtain ⟨stop, go⟩ := hJ i H' F' s' S'.sub
  by_cases hlt : i < ds.length
  · rw [List.drop_eq_getElem_cons hlt] at hgf
    obtain ⟨hgo, hy⟩ := go ds[i] (List.getElem?_eq_getElem hlt)
    refine .inr ⟨hgo, fun H2 => (i + 1) + (m - 1) = ds.length ∧ ∃ F' ρ' ws acc, Stt X.K (GX ws) σ H2 F' ρ' ∧ Sm F1 F' ∧ Reps X.K F' ws acc ∧ Good X.K G W σ F' ((lcM vs t tc el (ds.drop (i + 1)) acc ρ').nox) (fun ds ρ' H' F' => ∀ a vs H2, Stt X.K ⟨G.H0, G.F0, G.io, (a, .lst vs) :: G.xt⟩ σ H2 F' ρ' → Reps X.K F' vs ds → Q (.ref a) H2),
      fun H2 hn => ⟨m - 1, by omega, hn⟩, fun x H2 hyl => ?_⟩
    obtain ⟨F2, A2, r2⟩ := hy x H2 hyl
    have S2 := S'.aft A2
    have ra2 := ra.mono A2.f
    unfold lcM at hgf
    by_cases hpl : plainR ρ' vs = true
    · rw [if_pos hpl] at hgf
      have hpl' : ∀ v ∈ vs, (ρ'.getD v .un).isFar = false := fun v hv => by
        have := List.all_eq_true.mp hpl v hv
        simpa using this
      have S3 := S2.wiped vs fun v hv => not_own_io (hpl' v hv)
      refine qg (GX ws) (wipe σ vs) H2 F2 (wipeR ρ' vs) x _ _ S3 r2 ?_
      cases e : putT t ds[i] (wipeR ρ' vs) with
      | ok u ρ3 =>
        rw [e] at hgf
        refine fun σ3 H3 F3 S4 s4 o4 => ?_
        have l3 : σ3.length = (wipe σ vs).length := by
          rw [← S4.len, len_putT _ _ _ _ _ e, ← S3.len]
        have w3 : wipe σ3 vs = wipe σ vs := by
          refine wipe_same vs (by rw [l3, wipe_length]) fun j hj => ?_
          rw [o4 j fun hm => hj (hsl j hm), get_wipe σ vs j hj]
        have o3 : ∀ j, j ∉ vs → σ3[j]? = σ[j]? := fun j hj => by rw [o4 j fun hm => hj (hsl j hm), get_wipe σ vs j hj]
        refine ⟨w3, ?_⟩
        have ra3 := ra2.mono s4
        -- back to the slots of the def
        have back : ∀ {ws' : List V} {H6 F6 : Hp} {ρ6 : Ro}, Stt X.K (GX ws') σ3 H6 F6 ρ6 → Sm F3 F6 → freeR ρ6 vs = true → Stt X.K (GX ws') σ H6 F6 (backR ρ' ρ6 vs) := fun {ws' H6 F6 ρ6} S6 s6 hf => by
          have hf' : ∀ v ∈ vs, (ρ6.getD v .un).isIo = false := fun v hv => by
            have := List.all_eq_true.mp hf v hv
            simpa using this
          obtain ⟨τ, Sτ, t1, t2, tl⟩ := S6.backed (σ := σ) (ρ0 := ρ') (by rw [l3, wipe_length]) vs vs hf' fun v hv => ⟨hpl' v hv, by
            have q := S'.at_ v
            have no := hpl' v hv
            cases ev : ρ'.getD v .un with
            | un => trivial
            | val d => rw [ev] at q; obtain ⟨w, e1, r⟩ := q; exact ⟨w, e1, r.mono (A2.f.tr (s4.tr s6))⟩
            | own p xs => rw [ev] at no; cases no
            | ins p C ns dd => rw [ev] at no; cases no
            | dic p ks dd => rw [ev] at no; cases no
            | pin => rw [ev] at no; cases no⟩
          have eτ : τ = σ := by
            apply List.ext_getElem?
            intro j
            by_cases hj : j ∈ vs
            · exact t2 j hj
            · rw [t1 j hj, o3 j hj]
          rw [eτ] at Sτ
          exact Sτ
        have hgf : Good X.K G W σ F3 (((tc ρ3).bind fun k ρ2 =>
            if k = true then (el ρ2).bind fun y ρ3 => if acc.length < sizeLine ∧ freeR ρ3 vs = true then lcM vs t tc el (ds.drop (i + 1)) (acc ++ [y]) (backR ρ' ρ3 vs) else .stuck
            else if freeR ρ2 vs = true then lcM vs t tc el (ds.drop (i + 1)) acc (backR ρ' ρ2 vs) else .stuck).nox) _ := Good.mono (A2.f.tr s4) hgf
        refine qt (GX ws) σ3 H3 F3 ρ3 _ S4 ?_
        cases ec : tc ρ3 with
        | ok k ρ4 =>
          rw [ec] at hgf
          refine fun H5 F5 S5 s5 => ?_
          have ra5 := ra3.mono s5
          cases k with
          | true =>
            show if true = true then _ else _
            rw [if_pos rfl]
            refine qe (GX ws) σ3 H5 F5 ρ4 _ S5 ?_
            have hgf : Good X.K G W σ F5 (((el ρ4).bind fun y ρ3 => if acc.length < sizeLine ∧ freeR ρ3 vs = true then lcM vs t tc el (ds.drop (i + 1)) (acc ++ [y]) (backR ρ' ρ3 vs) else .stuck).nox) _ := Good.mono s5 hgf
            cases ee : el ρ4 with
            | ok y ρ5 =>
              rw [ee] at hgf
              refine fun H6 F6 S6 s6 v rv => ?_
              have hgf : Good X.K G W σ F6 ((if acc.length < sizeLine ∧ freeR ρ5 vs = true then lcM vs t tc el (ds.drop (i + 1)) (acc ++ [y]) (backR ρ' ρ5 vs) else .stuck).nox) _ := Good.mono s6 hgf
              split at hgf
              · rename_i hz
                have S7 := back S6 (s5.tr s6) hz.2
                obtain ⟨x1, x2, x3, x4⟩ := S6.xt (Da, .lst ws) (List.mem_cons_self ..)
                refine ⟨ws, x1, by rw [ra.length]; exact hz.1, by omega, F6, _, ws ++ [v], acc ++ [y], S7.xtUpd, s'.tr (A2.f.tr (s4.tr (s5.tr s6))), (ra5.mono s6).append (.cons rv .nil), hgf⟩
              · exact hgf.elim
            | exc xx ρ5 => rw [ee] at hgf; exact hgf.elim
            | stuck => rw [ee] at hgf; exact hgf.elim
          | false =>
            show if false = true then _ else _
            rw [if_neg Bool.false_ne_true]
            have hgf : Good X.K G W σ F5 ((if freeR ρ4 vs = true then lcM vs t tc el (ds.drop (i + 1)) acc (backR ρ' ρ4 vs) else .stuck).nox) _ := Good.mono s5 hgf
            split at hgf
            · rename_i hz
              exact ⟨by omega, F5, _, ws, acc, back S5 s5 hz, s'.tr (A2.f.tr (s4.tr s5)), ra5, hgf⟩
            · exact hgf.elim
        | exc xx ρ4 => rw [ec] at hgf; exact hgf.elim
        | stuck => rw [ec] at hgf; exact hgf.elim
      | exc xx ρ3 => rw [e] at hgf; exact hgf.elim
      | stuck => rw [e] at hgf; exact hgf.elim
    · rw [if_neg hpl] at hgf; exact hgf.elim
  · have e0 : ds.drop i = [] := List.drop_eq_nil_of_le (by omega)
    rw [e0] at hgf
    have hgf : Good X.K G W σ F' (.ok acc ρ') (fun ds ρ' H' F' => ∀ a vs H2, Stt X.K ⟨G.H0, G.F0, G.io, (a, .lst vs) :: G.xt⟩ σ H2 F' ρ' → Reps X.K F' vs ds → Q (.ref a) H2) := hgf
    exact .inl ⟨stop (by omega), hgf H' F' S'.xtDrop Sm.refl Da ws H' S' ra⟩
theorem AN.lc (hc : X.calm = true) (hN : X.N.Nodup) (hi : AI X W tg iter it) (ok : BlkOk X.N X.env.scope scope own) (hsl : ∀ i ∈ slT t, i ∈ own.map (·.2))
    (hg : ∀ s H C cl fp, AG (blkX X scope s H C cl fp) tg t) (ht : ∀ s H C cl fp, ATs (blkX X scope s H C cl fp) W0 ifs tc) (he : ∀ s H C cl fp, AE (blkX X scope s H C cl fp) W0 elt el)
    (hs : ∀ x, foldedSetIterable iter X.env x = pure x := by intro _; rfl) : AN X W (.ListComp elt [⟨tg, iter, ifs, 0⟩] scope pos) (mLc it (own.map (·.2)) t tc el) := by
  obtain ⟨wi, g, tt, te, pi, pg, pt, pe, q⟩ := lc_parts hi hsl hg ht he
  exact ⟨_, pe_lc hc hN pi ok pg pt pe hs, q⟩
/-- name = [..], the name a local -/
theorem AS.setLc {i : Nat} {y : Str} {py spos : Pos} (hc : X.calm = true) (hN : X.N.Nodup) (hy : X.N[i]? = some y) (hyl : X.env.scope.names.lookup y = some .local)
    (hsw : swapsWith (.ListComp elt [⟨tg, iter, ifs, 0⟩] scope pos) (some (.Name y py)) spos.line X.env = pure true) (hi : AI X W tg iter it) (ok : BlkOk X.N X.env.scope scope own) (hsl : ∀ i ∈ slT t, i ∈ own.map (·.2))
    (hg : ∀ s H C cl fp, AG (blkX X scope s H C cl fp) tg t) (ht : ∀ s H C cl fp, ATs (blkX X scope s H C cl fp) W0 ifs tc) (he : ∀ s H C cl fp, AE (blkX X scope s H C cl fp) W0 elt el)
    (hs : ∀ x, foldedSetIterable iter X.env x = pure x := by intro _; rfl) : AS X W (.Assign [.Name y py] (.ListComp elt [⟨tg, iter, ifs, 0⟩] scope pos) spos) (xPut (.sl i) (mOfN (mLc it (own.map (·.2)) t tc el))) := by
  obtain ⟨wi, g, tt, te, pi, pg, pt, pe, q⟩ := lc_parts hi hsl hg ht he
  refine ⟨_, ps_setLc hc hN hy hyl hsw pi ok pg pt pe hs, fun G σ H F ρ Dn S hgd => ?_⟩
  have hgd : GoodS X.K G W F ((mOfN (mLc it (own.map (·.2)) t tc el) ρ).bind fun d ρ => (putT (.sl i) d ρ).bind fun _ ρ => .ok .nx ρ) Dn := hgd
  unfold mOfN at hgd
  have h2 : GoodS X.K G W F ((mLc it (own.map (·.2)) t tc el ρ).bind fun ds ρ => (putT (.sl i) (.lst ds) ρ).bind fun _ ρ => .ok .nx ρ) Dn := by
    cases e : mLc it (own.map (·.2)) t tc el ρ <;> (rw [e] at hgd; exact hgd)
  refine q G σ H F ρ _ S (GoodS.bind h2 fun ds ρ1 H1 F1 S1 s1 g1 a vs H2 S2 r => ?_)
  obtain ⟨S3, s3⟩ := S2.xtFreeze
  unfold putT at g1
  split at g1
  · exact g1.elim
  · rename_i hh
    exact g1 _ H2 _ (S3.setVal (by simpa using hh) (.lst upd_same (r.mono s3))) s3
end
end Mr
namespace Mr
open PySem PySem.Spec PyProof.Rows L2
variable [Lam] [Pins]

def xNever : M Fl := fun _ => .stuck
def xBk : M Fl := fun ρ => .ok .bk ρ
def xCt : M Fl := fun ρ => .ok .ct ρ
/-- i, j = .. -/
def xPar (i j : Nat) (fs : M (List D)) : M Fl := fun ρ => (fs ρ).bind fun ds ρ => match ds with
  | [d, e] => (putT (.sl i) d ρ).bind fun _ ρ => (putT (.sl j) e ρ).bind fun _ ρ => .ok .nx ρ
  | _ => .stuck
section
variable {X : Cx} {W : WX} {st : Stmt} {pos : Pos}
theorem AE.ty {T : String} {x : Str} (hg : Gl X x) (hm : X.mg x = none) (hv : bootBuiltins x = some (.type T)) (hn : x ≠ "__name__" := by decide) (hd : (x == ("__debug__" : Str)) = false := by decide) : AE X W (.Name x pos) (mC (.opq (.ty T))) :=
  .cst (v := .ty T) (pe_bltn hg hm hv rfl hn hd) fun _ _ => .opq _
theorem AS.never : AS X W st xNever := ⟨_, ps_never, fun G σ H F ρ Dn S hg => hg.elim⟩
theorem AS.bk : AS X W (.Break pos) xBk := AS.brk
theorem AS.ct : AS X W (.Continue pos) xCt := AS.cont
theorem AS.par {i j : Nat} {x y : Str} {a b : Expr} {fs : M (List D)} {px py pt : Pos} {kt k2 pt2} (hc : X.calm = true) (hN : X.N.Nodup) (hi : X.N[i]? = some x) (hj : X.N[j]? = some y) (hij : i ≠ j)
    (hx : X.env.scope.names.lookup x = some .local) (hy : X.env.scope.names.lookup y = some .local) (ha : AA X W [a, b] fs)
    (hw : swappedStores [.Tuple [.Name x px, .Name y py] kt pt] (.Tuple [a, b] k2 pt2) X.env = pure (some [x, y]) := by rfl)
    (hs : swapsWithSole [.Tuple [.Name x px, .Name y py] kt pt] (.Tuple [a, b] k2 pt2) pos.line X.env = pure false := by rfl) :
    AS X W (.Assign [.Tuple [.Name x px, .Name y py] kt pt] (.Tuple [a, b] k2 pt2) pos) (xPar i j fs) := by
  obtain ⟨t, p, q⟩ := ha
  refine ⟨_, ps_par hc hN hi hj hij hx hy p hw hs, fun G σ H F ρ Dn S hg => q G σ H F ρ _ S (GoodS.bind hg fun ds ρ1 H1 F1 S1 s1 g1 vs r1 => ?_)⟩
  split at g1
  · obtain ⟨v, u, rfl, rv, ru⟩ := reps2 r1
    refine ⟨v, u, rfl, ?_⟩
    unfold putT at g1
    split at g1
    · exact g1.elim
    · rename_i h1
      have g1 : GoodS X.K G W F1 ((if ((ρ1.set i (.val _)).getD j .un).isIo = true then R.stuck else .ok () ((ρ1.set i (.val _)).set j (.val _))).bind fun _ ρ => .ok .nx ρ) Dn := g1
      split at g1
      · exact g1.elim
      · rename_i h2
        have S2 := S1.setVal (i := i) (by simpa using h1) rv
        exact g1 _ H1 F1 (S2.setVal (by simpa using h2) ru) Sm.refl
  · exact g1.elim
end
end Mr
namespace Mr
open PySem PySem.Spec PyProof.Rows L2
variable [Lam] [Pins]
/-- a table of the text's, as it stands where the law is called -/
structure TabAt (K : PySem.W.Frag) (h : Heap) (P : Addr) : Prop where
  cd : ∃ c, PySem.W.codeHdIn K c P = true
  no : K.lookup P = none
  at_ : h.get? P = some { cls := .none, data := .fields #[] }
/-- what is tracked where the law is called: the script, the tables -/
def Starts (T : List Addr) (H : Hp) : Prop := ∀ b, H b = none ∨ (b ∈ T ∧ H b = some (.tbl #[])) ∨ ∃ o xs, H b = some (.frz o (.lst xs))
/-- the law's def, called at the script: its promise over what the top left -/
theorem law_callG {P : Program} {w : World} {K : PySem.W.Frag} {mg mb : Str → Option Value} {k : Nat} {fa a : Addr} {fd : FuncData} {x : Str} {sp : Sp} {s : Shared} {vs : List Value} {ns : List Int} (T : List Addr) (hT : ∀ p ∈ T, TabAt K s.heap p)
    (KX : K.In s.heap) (hns : s.heap.Ns mainGlobals mg) (hb : s.heap.Ns builtinsNs mb) (hbb : ∀ x : Str, x ≠ "__name__" → mb x = bootBuiltins x) (hlim : s.heap.NoLimit) (hg : s.gens = #[])
    (ha : s.heap.get? a = some { cls := .type "list", data := .seq vs.toArray }) (hi : IntsAre vs ns) (hl : ns.length ≤ sizeLine) (hr : RoomG k callerA)
    (F : ∀ base : Heap, FnG P w K mg base k fa fd [x] sp) (hbind : ∀ (s : Shared) (u : Value), BindsTo s fd ⟨[u], []⟩ [(x, u)])
    (hsp : ∀ H : Hp, (∀ p ∈ T, H p = some (.tbl #[])) → SqL K H a (ns.map V.int) → sp [.ref a] H (fun v _ => v = .bl true) fun _ _ _ => False)
    (hCX : ∀ H e s', L2.CX P w [] H s (fun _ _ _ => False) e s' → False) :
    codeAny (model P w) callerA (.call (.ref fa) ⟨[.ref a], []⟩) (fun r s' => r = .ok (.ret (.bool true)) ∧ OldK s.heap s'.heap ∧ s'.os = s.os ∧ AllBare s'.gens) s := by
  have aT : a ∉ T := fun z => by
    have q := (hT a z).at_
    rw [ha] at q
    cases q
  have run : ∀ H : Hp, (∀ p ∈ T, H p = some (.tbl #[])) → Starts T H → SqL K H a (ns.map V.int) → HOk P w H s.heap → (∀ b, H b ≠ none → b = a ∨ b ∈ T) → (H a ≠ none → K.lookup a = none) →
      codeAny (model P w) callerA (.call (.ref fa) ⟨[.ref a], []⟩) (fun r s' => r = .ok (.ret (.bool true)) ∧ OldK s.heap s'.heap ∧ s'.os = s.os ∧ AllBare s'.gens) s := by
    intro H tabs only sq ok onlyA outK
    have hid : ∀ {b : Addr} {o : Obj}, s.heap.get? b = some o → H b = none → (hidT s.heap H).get? b = some o := fun e n => hidT_get e n
    have noDict : ∀ {b : Addr} {o : Obj} {es : Array DictEntry} {n : Nat}, s.heap.get? b = some o → o.data = .dict es n → H b = none := by
      intro b o es n e d
      cases q : H b with
      | none => rfl
      | some u =>
        rcases onlyA b (by rw [q]; simp) with eb | eb
        · rw [eb, ha] at e
          cases e
          cases (show Data.seq vs.toArray _ = Data.dict es n from d)
        · rw [(hT b eb).at_] at e
          cases e
          cases (show Data.fields #[] = Data.dict es n from d)
    have ns_ : ∀ {b : Addr} {m : Str → Option Value}, s.heap.Ns b m → (hidT s.heap H).Ns b m := fun ⟨o, es, n, e, d, r⟩ => ⟨o, es, n, hid e (noDict e d), d, r⟩
    have kIn : K.In (hidT s.heap H) := fun b o e => by
      refine hid (KX b o e) ?_
      cases q : H b with
      | none => rfl
      | some u =>
        rcases onlyA b (by rw [q]; simp) with eb | eb
        · rw [eb, outK (by rw [← eb, q]; simp)] at e
          cases e
        · rw [(hT b eb).no] at e
          cases e
    have md : Mod K mg (hidT s.heap H) := ⟨kIn, ns_ hns, ⟨mb, ns_ hb, hbb⟩, hlim.elim fun mc h => ⟨mc, ns_ h.1, h.2⟩⟩
    have e0 : Env0 P w K mg (hidT s.heap H) callerA [] s H := ⟨rfl, md, fun b o e => of_hidT e, Nat.le_of_eq (hidT_size _ _), trivial, fun b hb => (by cases (show b ∈ ([] : List Addr) from hb)), ok, .of_eq hg⟩
    refine codeAny_mono ((F (hidT s.heap H)).run callerA [] s H ⟨[.ref a], []⟩ [.ref a] [.ref a] _ _ hr e0 (hbind s (.ref a)) (.cons rfl .nil) (hsp H tabs sq)) fun r s2 h => ?_
    match r, h with
    | .error e, h => exact (hCX H e s2 h).elim
    | .ok .next, h => exact False.elim h
    | .ok .brk, h => exact False.elim h
    | .ok .cont, h => exact False.elim h
    | .ok (.ret u), ⟨v, H2, os, bare, un, ok2, rv, q⟩ =>
      have q : v = .bl true := q
      rw [q] at rv
      have ru : u = Value.bool true := rv
      rw [ru]
      have kept : ∀ b o, b ∉ T → s.heap.get? b = some o → s2.heap.get? b = some o := fun b o nb e => by
        cases hb : H b with
        | none => exact un.keep b o e hb (fun z => by cases z) (by simp)
        | some y =>
          rcases only b with z | ⟨z, _⟩ | ⟨ob, xs, z⟩
          · rw [hb] at z; cases z
          · exact absurd z nb
          · have e1 := (ok b _ z).1
            have e2 := (ok2 b _ (un.frzs b ob _ z)).1
            rw [e] at e1; cases e1
            exact e2
      have big : ∀ p ∈ T, ∃ more : Array Value, s2.heap.get? p = some { cls := .none, data := .fields more } := fun p hp => by
        obtain ⟨more, z⟩ := un.tbls p #[] (tabs p hp)
        exact ⟨_, ok2 p _ z⟩
      refine ⟨rfl, ⟨fun b o e => ?_, fun b o e => ?_⟩, os, bare⟩
      · by_cases hb : b ∈ T
        · obtain ⟨more, hm⟩ := big b hb
          have at0 := (hT b hb).at_
          obtain ⟨c, hc⟩ := (hT b hb).cd
          rw [at0] at e
          cases e
          refine .inr (.inl ⟨((PySem.W.codeHd_of_K KX hc).tab at0).isCodeTable, rfl, #[], more, rfl, ?_⟩)
          rw [Array.empty_append]
          exact hm
        · exact .inl (kept b o hb e)
      · by_cases hb : b ∈ T
        · obtain ⟨more, hm⟩ := big b hb
          exact ⟨_, hm⟩
        · exact ⟨o, kept b o hb e⟩
  have lenV := hi.length
  have rv := vals_ints hi
  obtain ⟨Ht, yesT, noT⟩ : ∃ Ht : Hp, (∀ b, b ∈ T → Ht b = some (.tbl #[])) ∧ ∀ b, b ∉ T → Ht b = none := ⟨fun b => if b ∈ T then some (.tbl #[]) else none, fun b e => if_pos e, fun b e => if_neg e⟩
  cases hk : K.lookup a with
  | some o =>
    have e := KX a o hk
    rw [ha] at e
    cases e
    refine run Ht yesT (fun b => ?_) (.inr ⟨_, vs.toArray, _, hk, rfl, rfl, rfl, by rw [List.size_toArray, lenV]; exact hl, by simpa using rv⟩) (fun b u z => ?_) (fun b z => ?_) fun z => absurd (noT a aT) z
    · by_cases h : b ∈ T
      · exact .inr (.inl ⟨h, yesT b h⟩)
      · exact .inl (noT b h)
    · by_cases h : b ∈ T
      · rw [yesT b h] at z
        cases z
        exact (hT b h).at_
      · rw [noT b h] at z; cases z
    · exact .inr (Classical.byContradiction fun h => z (noT b h))
  | none =>
    obtain ⟨Ha, yes, no⟩ : ∃ Ha : Hp, (∀ b, b = a → Ha b = some (HO.frz { cls := .type "list", data := .seq vs.toArray } (.lst (ns.map V.int)))) ∧ ∀ b, b ≠ a → Ha b = Ht b :=
      ⟨fun b => if b = a then some (HO.frz { cls := .type "list", data := .seq vs.toArray } (.lst (ns.map V.int))) else Ht b, fun b e => if_pos e, fun b e => if_neg e⟩
    refine run Ha (fun p hp => ?_) (fun b => ?_) (.inl (.inr ⟨_, yes a rfl⟩)) (fun b u z => ?_) (fun b z => ?_) fun _ => hk
    · rw [no p fun e => aT (e ▸ hp)]
      exact yesT p hp
    · by_cases e : b = a
      · exact .inr (.inr ⟨_, _, yes b e⟩)
      · rw [no b e]
        by_cases h : b ∈ T
        · exact .inr (.inl ⟨h, yesT b h⟩)
        · exact .inl (noT b h)
    · by_cases e : b = a
      · have z' := (yes b e).symm.trans z
        cases z'
        rw [e]
        exact ⟨ha, by rw [List.length_map]; exact hl, vs, _, rv, ha⟩
      · rw [no b e] at z
        by_cases h : b ∈ T
        · rw [yesT b h] at z
          cases z
          exact (hT b h).at_
        · rw [noT b h] at z; cases z
    · by_cases e : b = a
      · exact .inl e
      · refine .inr (Classical.byContradiction fun h => z ?_)
        rw [no b e, noT b h]
/-- the heap without its tables -/
def offT (H : Hp) : Hp := fun b => match H b with
  | some (.tbl _) => none
  | o => o
theorem offT_at {H : Hp} {b : Addr} {o : HO} (h : H b = some o) (n : isTb o = false) : offT H b = some o := by
  unfold offT
  rw [h]
  cases o <;> first | rfl | cases n
theorem offT_of {H : Hp} {b : Addr} {o : HO} (h : offT H b = some o) : H b = some o ∧ isTb o = false := by
  unfold offT at h
  cases e : H b with
  | none => rw [e] at h; cases h
  | some u =>
    rw [e] at h
    cases u <;> first | (cases h; exact ⟨rfl, rfl⟩) | cases h
theorem offT_sq {K : PySem.W.Frag} {H : Hp} {a : Addr} {xs : List V} (h : SqL K H a xs) : SqL K (offT H) a xs := by
  rcases h with (h | ⟨o, h⟩) | h
  · exact .inl (.inl (offT_at h rfl))
  · exact .inl (.inr ⟨o, offT_at h rfl⟩)
  · exact .inr h
/-- the law's promise of its mirror -/
theorem law_psp {K : PySem.W.Frag} {m : List D → FR D} {H : Hp} {a : Addr} {ns : List Int} (hH : ∀ p ∈ (Lam.T K).map (·.1), H p = some (.tbl #[])) (hS : SqL K H a (ns.map V.int)) (hm : m [.frz (ns.map .int)] = .ok (.bl true)) :
    PSp K 1 m [.ref a] H (fun v _ => v = .bl true) fun _ _ _ => False := by
  refine ⟨rfl, offT H, [.frz (ns.map .int)], ⟨fun b o e => (offT_of e).1, fun b o e => (offT_of e).2, fun p hp => LamX.TabS.nil (hH p.1 (List.mem_map.mpr ⟨p, hp, rfl⟩))⟩, .cons (.frz (offT_sq hS) (Reps.of_ints ns)) .nil, ?_⟩
  rw [hm]
  intro v H' F' _ r
  cases r
  rfl
end Mr
namespace Mr
open PySem PySem.Spec PyProof.Rows L2
variable [Lam] [Pins]

/-- the j-th statement of a class's body -/
def inCls (st : Stmt) (j : Nat) : Stmt := match st with
  | .ClassDef _ _ _ body _ _ _ _ _ _ _ => body.getD j (.Pass ⟨0, 0, 0, 0⟩)
  | _ => .Pass ⟨0, 0, 0, 0⟩
/-- the field f is y from now on -/
def putN (f : Str) : List Str → List Str
  | [] => [f]
  | n :: ns => if n = f then n :: ns else n :: putN f ns
def putX {α : Type} (f : Str) (y : α) : List Str → List α → List α
  | n :: ns, v :: vs => if n = f then y :: vs else v :: putX f y ns vs
  | _, _ => [y]
theorem putF_zip {f : Str} {y : V} : ∀ {ns : List Str} {vs : List V}, ns.length = vs.length → putF f y (ns.zip vs) = (putN f ns).zip (putX f y ns vs)
  | [], [], _ => rfl
  | n :: ns, v :: vs, h => by
    show (if n = f then (n, y) :: ns.zip vs else (n, v) :: putF f y (ns.zip vs)) = _
    unfold putN putX
    by_cases e : n = f
    · rw [if_pos e, if_pos e, if_pos e]; rfl
    · rw [if_neg e, if_neg e, if_neg e, putF_zip (by simpa using h)]; rfl
theorem putX_length {α : Type} {f : Str} {y : α} : ∀ {ns : List Str} {vs : List α}, ns.length = vs.length → (putN f ns).length = (putX f y ns vs).length
  | [], [], _ => rfl
  | n :: ns, v :: vs, h => by
    unfold putN putX
    by_cases e : n = f
    · rw [if_pos e, if_pos e]; exact h
    · rw [if_neg e, if_neg e, List.length_cons, List.length_cons, putX_length (by simpa using h)]
theorem putX_reps {K : PySem.W.Frag} {F : Hp} {f : Str} {v : V} {d : D} (r : Rep K F v d) : ∀ {ns : List Str} {vs : List V} {ds : List D}, Reps K F vs ds → Reps K F (putX f v ns vs) (putX f d ns ds)
  | [], [], [], .nil => .cons r .nil
  | [], _ :: _, _ :: _, .cons _ _ => .cons r .nil
  | _ :: _, [], [], .nil => .cons r .nil
  | n :: ns, _ :: _, _ :: _, .cons a q => by
    unfold putX
    by_cases e : n = f
    · rw [if_pos e, if_pos e]; exact .cons r q
    · rw [if_neg e, if_neg e]; exact .cons a (putX_reps r q)
/-- the field f -/
def fldX {α : Type} (f : Str) : List Str → List α → Option α
  | n :: ns, v :: vs => if f = n then some v else fldX f ns vs
  | _, _ => none
theorem fldX_rep {K : PySem.W.Frag} {F : Hp} {f : Str} {d : D} : ∀ {ns : List Str} {vs : List V} {ds : List D}, Reps K F vs ds → fldX f ns ds = some d → ∃ v, (ns.zip vs).lookup f = some v ∧ Rep K F v d
  | [], _, _, _, h => by simp [fldX] at h
  | _ :: _, _, _, .nil, h => by simp [fldX] at h
  | n :: ns, _ :: _, _ :: _, .cons (v := v) a q, h => by
    unfold fldX at h
    rw [List.zip_cons_cons]
    by_cases e : f = n
    · rw [if_pos e] at h
      cases h
      exact ⟨v, by simp [List.lookup, e], a⟩
    · rw [if_neg e] at h
      obtain ⟨w, e1, e2⟩ := fldX_rep q h
      exact ⟨w, by rw [List.lookup_cons, beq_eq_false_iff_ne.mpr e]; exact e1, e2⟩
/-- what is known of an own class: it is plain, and its fields are no class's -/
structure ClsF (K : PySem.W.Frag) (c : Str) (fs : List Str) : Prop where
  cl : Cls K (He.ga K c)
  no : ∀ f ∈ fs, NoAttr K (He.ga K c) f
/-- e.f of an instance -/
def fldD (cs : List Str) (f : Str) : D → FR D
  | .obj c ns ds => if c ∈ cs then match fldX f ns ds with
    | some d => .ok d
    | none => .stuck
    else .stuck
  | _ => .stuck
/-- self.f = e -/
def xFld (j : Nat) (c : Str) (f : Str) (e : M D) : M Fl := fun ρ => (e ρ).bind fun d ρ => match ρ.getD j .un with
  | .ins p c' ns ds => if c' = c ∧ ns.length < 1000 then .ok .nx (ρ.set j (.ins p c (putN f ns) (putX f d ns ds))) else .stuck
  | _ => .stuck
/-- C(..) -/
def mMake (c : Str) (mi : SV → List D → IR) (n : Nat) (dd : List D) (fs : M (List D)) : M D := fun ρ => (fs ρ).bind fun ds ρ => if ds.length + dd.length = n then match mi (.ins true c [] []) (ds ++ dd) with
    | .ok .non (.ins _ c' ns xs) => if c' = c then .ok (.obj c ns xs) ρ else .stuck
    | .exc x _ => .exc x ρ
    | _ => .stuck
  else .stuck
section
variable {X : Cx} {W : WX} {k n : Nat} {f : Addr} {fd : FuncData} {ps : List Str} {sp : Sp} {dvs : List V} {dV : List Value} {dd : List D} {x c g : Str} {cs : List Str} {p pos py : Pos} {e o : Expr} {es : List Expr} {fs : M (List D)} {fe : M D} {m : List D → FR D} {mi : SV → List D → IR}
theorem AE.fld {fe : M D} (he : AE X W e fe) (hc : ∀ c ∈ cs, ClsF X.K c [g]) (hb : attributeBase e g X.env (eval e X.env) = eval e X.env) : AE X W (.Attribute e g pos) (m1 (fldD cs g) fe) := by
  obtain ⟨t, p, q⟩ := he
  refine ⟨_, pe_fld p hb, fun G σ H F ρ Q S hg => q G σ H F ρ _ S (hg.bind fun d ρ1 H1 F1 S1 s1 g1 v r1 => ?_)⟩
  cases r1 with
  | obj h1 h2 h3 h4 =>
    simp only [fldD] at g1
    split at g1
    · rename_i hz
      split at g1
      · rename_i w hw
        obtain ⟨u, e1, e2⟩ := fldX_rep h4 hw
        exact ⟨_, _, _, _, u, rfl, S1.sub _ _ h1, (hc _ hz).cl, (hc _ hz).no _ (by simp), by rw [h2]; exact e1, g1 H1 F1 S1 Sm.refl u e2⟩
      · exact g1.elim
    · exact g1.elim
  | _ => exact g1.elim
theorem AS.fld {j : Nat} {pos' : Pos} (hv : AE X W e fe) (h0 : PE X (.Name x py) (tVar j)) (hc : ClsF X.K c [g]) (hs : swapsWith e (some (.Attribute (.Name x py) g pos')) pos.line X.env = pure false := by rfl) :
    AS X W (.Assign [.Attribute (.Name x py) g pos'] e pos) (xFld j c g fe) := by
  obtain ⟨t, p, q⟩ := hv
  refine ⟨_, ps_fld h0 p hs, fun G σ H F ρ Dn S hg => q G σ H F ρ _ S (GoodS.bind hg fun d ρ1 H1 F1 S1 s1 g1 v r1 => ?_)⟩
  have qs := S1.at_ j
  cases hs : ρ1.getD j .un with
  | ins p c' ns ds =>
    rw [hs] at g1 qs
    have g1 : GoodS X.K G W F1 (if c' = c ∧ ns.length < 1000 then R.ok .nx (ρ1.set j (.ins p c (putN g ns) (putX g d ns ds))) else .stuck) Dn := g1
    split at g1
    · rename_i hz
      obtain ⟨rfl, hl⟩ := hz
      obtain ⟨a, dx, vs, e1, e2, e3, e4, r⟩ := qs
      have hz2 : (ns.zip vs).length < 1000 := by rw [List.length_zip]; omega
      refine ⟨_, e1, a, _, dx, _, rfl, e2, hc.cl, hc.no _ (by simp), hz2, ?_⟩
      rw [putF_zip e3]
      exact g1 σ _ F1 (S1.change (i := j) (a := a) (sv := .ins p c' (putN g ns) (putX g d ns ds)) (by rw [hs]; rfl) e1 (S1.own_upd (by rw [hs]; rfl) e1) (fun b o h => by
        rw [upd_ne (fun z => by subst z; rw [e4] at h; cases h)]; exact S1.sub b o h) Sm.refl (fun b o h => .inl h) S1.ft ⟨a, dx, putX g v ns vs, rfl, upd_same, putX_length e3, e4, putX_reps r1 r⟩ rfl (by rw [hs]; rfl)) Sm.refl
    · exact g1.elim
  | _ => rw [hs] at g1; exact g1.elim
def tMakeW (W : WX) (C : Addr) (sp : Sp) (dvs : List V) (t : TA) : TE := fun σ H Q => t σ H fun vs H1 => ∀ x dx, H1 x = none → H1 dx = none → dx ≠ x →
  sp (.ref x :: (vs ++ dvs)) (upd (upd H1 dx (.own x)) x (.ins C dx [])) (fun v H2 => v = .non ∧ Q (.ref x) H2) (WE W σ)
theorem run_makeW {C : Addr} {pins : List (Addr × Obj)} {σ : St} {H : Hp} {s : Shared} {Q : VK} {us : List Value} {vs : List V} (M : L2.Mk X.K C f) (Fn : FnG X.prog X.w X.K X.mg X.base k f fd ps sp) (hr : RoomG (k + 1) X.A) (hb : Binds X.K fd ps dV) (hd : Vals dvs dV)
    (tk : Takes X W) (I : Inv X pins σ H s) (r : Vals vs us)
    (h : ∀ x dx, H x = none → H dx = none → dx ≠ x → sp (.ref x :: (vs ++ dvs)) (upd (upd H dx (.own x)) x (.ins C dx [])) (fun v H2 => v = .non ∧ Q (.ref x) H2) (WE W σ)) :
    wpAny (model X.prog X.w) X.A (call (.ref C) us) (EP X pins σ Q) X.xe s := by
  have hq := h (s.heap.objs.size + 1) s.heap.objs.size (I.hok.fresh (Nat.le_succ _)) (I.hok.fresh (Nat.le_refl _)) (Nat.ne_of_lt (Nat.lt_succ_self _))
  have I2 := Inv.made (C := C) I
  have r2 : Vals (V.ref (s.heap.objs.size + 1) :: (vs ++ dvs)) (Value.ref (s.heap.objs.size + 1) :: (us ++ dV)) := .cons rfl (r.append hd)
  have hl : (Value.ref (s.heap.objs.size + 1) :: us ++ dV).length = ps.length := by
    have e := r2.length
    rw [Fn.len _ _ _ _ hq] at e
    exact e.symm
  refine wpAny_call (make_map (f := f) I.kIn M.makes M.init (beq_iff_eq.mp M.fn) (codeAny_mono (Fn.run _ X.stack _ _ ⟨Value.ref (s.heap.objs.size + 1) :: us, []⟩ (Value.ref (s.heap.objs.size + 1) :: (us ++ dV)) _ _ _ (hr.make C us [])
    (I2.env0.make C us []) (hb _ (Value.ref (s.heap.objs.size + 1) :: us) I2.kIn hl) r2 hq) fun r s' hq' => ?_))
  cases r with
  | error e => exact passAt tk σ pins _ _ e s' I2 hq'
  | ok fl =>
    cases fl with
    | ret u =>
      obtain ⟨v, H', I3, rv, ev, q3⟩ := I2.after hq'
      subst ev
      exact ⟨rv, ⟨V.ref (s.heap.objs.size + 1), H', I3, rfl, q3⟩⟩
    | _ => exact hq'.elim
theorem pe_makeW {C : Addr} {ta : TA} (M : L2.Mk X.K C f) (Fn : FnG X.prog X.w X.K X.mg X.base k f fd ps sp) (hr : RoomG (k + 1) X.A) (hg : Gl X x) (hm : X.mg x = some (.ref C)) (hb : Binds X.K fd ps dV) (hd : Vals dvs dV) (tk : Takes X W)
    (ha : PA X (e :: es) ta) (hdb : (x == ("__debug__" : Str)) = false := by decide) (he : starEach (e :: es) X.env = (false, eval e X.env) :: starEach es X.env := by rfl) (hpl : (backTo pos (starEach es X.env)).any (·.1) = false := by rfl) :
    PE X (.Call (.Name x p) (e :: es) [] pos) (tMakeW W C sp dvs ta) := by
  refine ⟨fun pins s σ H Q I h => ?_⟩
  refine wpAny_Call_Name_kw (ld_glob I hg hm ?_ hdb)
  refine PySem.W.callWith_K (h₀ := X.base) I.ok.mod.kin M.kp (thn (ha.run pos pins s σ H _ I h) fun us s1 ⟨vs, H1, I1, r, q⟩ => ⟨I1.kIn, ?_⟩) he hpl
  exact run_makeW M Fn hr hb hd tk I1 r q
theorem AE.make (M : L2.Mk X.K (He.ga X.K c) f) (Fn : FnG X.prog X.w X.K X.mg X.base k f fd ps (ISp X.K n mi)) (hr : RoomG (k + 1) X.A) (hg : Gl X x) (hm : X.mg x = some (.ref (He.ga X.K c))) (hb : Binds X.K fd ps dV) (hd : Vals dvs dV) (hdd : ∀ K H, Reps K H dvs dd) (tk : Takes X W)
    (ha : AA X W (e :: es) fs) (hdb : (x == ("__debug__" : Str)) = false := by decide) (he : starEach (e :: es) X.env = (false, eval e X.env) :: starEach es X.env := by rfl) (hpl : (backTo pos (starEach es X.env)).any (·.1) = false := by rfl) :
    AE X W (.Call (.Name x p) (e :: es) [] pos) (mMake c mi n dd fs) := by
  obtain ⟨t, pa, qa⟩ := ha
  refine ⟨_, pe_makeW M Fn hr hg hm hb hd tk pa hdb he hpl, fun G σ H F ρ Q S hgd => qa G σ H F ρ _ S (hgd.bind fun ds ρ1 H1 F1 S1 s1 g1 vs r1 => fun x dx nx ndx ne => ?_)⟩
  have g1 : Good X.K G W σ F1 (if ds.length + dd.length = n then match mi (.ins true c [] []) (ds ++ dd) with
    | .ok .non (.ins _ c' ns xs) => if c' = c then .ok (.obj c ns xs) ρ1 else .stuck
    | .exc x _ => .exc x ρ1
    | _ => .stuck
  else .stuck) (PD X.K Q) := g1
  split at g1
  · rename_i hz
    have fx := S1.sub.none nx
    have sub1 : Sm H1 (upd (upd H1 dx (.own x)) x (.ins (He.ga X.K c) dx [])) := fun b o h => by
      rw [upd_ne (fun z => by subst z; rw [nx] at h; cases h), upd_ne (fun z => by subst z; rw [ndx] at h; cases h)]; exact h
    have key : ∀ {sv : SV} {H' F' : Hp}, AftIo X.K x sv (upd (upd H1 dx (.own x)) x (.ins (He.ga X.K c) dx [])) F1 H' F' → SmT X.K H1 H' ∧ (∀ b o, F' b = some o → F1 b = some o ∨ Nn H1 b) := fun A =>
      ⟨⟨fun b o h n => A.h.k b o (fun z => by subst z; rw [nx] at h; cases h) (sub1 b o h) n, fun x => A.h.t (x.ext sub1)⟩, fun b o h => (A.new b o h).imp id fun z => fun o e => z o (sub1 b o e)⟩
    refine ⟨by rw [List.length_cons, List.length_append, r1.length, (hdd X.K F1).length]; omega, F1, x, vs ++ dvs, .ins true c [] [], ds ++ dd, rfl, ⟨S1.sub.tr sub1, S1.ft, S1.tb.ext sub1⟩, ⟨x, dx, [], rfl, by rw [upd_same]; rfl, rfl, fx, .nil⟩, rfl, r1.append (hdd _ _), ?_⟩
    cases em : mi (.ins true c [] []) (ds ++ dd) with
    | ok d sv =>
      rw [em] at g1
      cases d with
      | non =>
        cases sv with
        | ins pp c' ns xs =>
          have g1 : Good X.K G W σ F1 (if c' = c then R.ok (.obj c ns xs) ρ1 else .stuck) (PD X.K Q) := g1
          split at g1
          · rename_i hc
            subst hc
            intro v H' F' A rv
            cases rv
            refine ⟨rfl, ?_⟩
            obtain ⟨a, dx', ws, e1, e2, e3, e4, rr⟩ := A.at_
            cases e1
            obtain ⟨k1, k2⟩ := key A
            have sF : Sm F' (upd F' x (.ins (He.ga X.K c') dx' (ns.zip ws))) := Sm.updN e4
            refine g1 H' (upd F' x (.ins (He.ga X.K c') dx' (ns.zip ws))) (S1.grow k1 (fun b o h => ?_) (A.f.tr sF) (fun b o h => ?_) ((A.ft S1.ft).upd rfl)) (A.f.tr sF) _ (.obj upd_same rfl e3 (rr.mono sF))
            · by_cases z : b = x
              · subst z; rw [upd_same] at h; cases h; exact e2
              · rw [upd_ne z] at h; exact A.sub b o h
            · by_cases z : b = x
              · subst z; exact .inr (.of nx)
              · rw [upd_ne z] at h; exact k2 b o h
          · exact g1.elim
        | _ => exact g1.elim
      | _ => cases sv <;> exact g1.elim
    | exc xx sv =>
      rw [em] at g1
      intro d H' F' A rv
      obtain ⟨k1, k2⟩ := key A
      exact g1 d H' F' (S1.grow k1 A.sub A.f k2 (A.ft S1.ft)) A.f rv
    | stuck => rw [em] at g1; exact g1.elim
  · exact g1.elim
def E0F : XK := fun _ _ _ => False
theorem pass0F : Passes (L2.CX X.prog X.w) X E0F := fun pins σ H s e s' I c => by
  obtain ⟨_, _, _, _, _, _, _, _, _, _, _, _, h⟩ := c
  exact h.elim
theorem goodF0 {G : Ent} {σ : St} {H F : Hp} {ρ : Ro} {r : FR D} {T : VK} (S : Stt X.K G σ H F ρ) (hr : ∀ d, r = .ok d → ∀ v H' F', Stt X.K G σ H' F' ρ → Sm F F' → Rep X.K F' v d → T v H') (h : ∃ d, r = .ok d) : GoodF X.K H F r T E0F := by
  obtain ⟨d, e⟩ := h
  rw [e]
  exact fun v H' F' A rv => hr d e v H' F' (S.aft A) A.f rv
def rOwnIn (C : Addr) (sp : Sp) : R2 := fun x y H Q => ∃ b dx fs, y = .ref b ∧ H b = some (.ins C dx fs) ∧ sp [.ref b, x] H (fun v H' => ∃ r, v = .bl r ∧ Q (.bl r) H') E0F
def rOwnNin (C : Addr) (sp : Sp) : R2 := fun x y H Q => ∃ b dx fs, y = .ref b ∧ H b = some (.ins C dx fs) ∧ sp [.ref b, x] H (fun v H' => ∃ r, v = .bl r ∧ Q (.bl (!r)) H') E0F
theorem op_inOwn {C : Addr} (M : Meth X.K C "__contains__" f) (Fn : FnG X.prog X.w X.K X.mg X.base k f fd ps sp) (hr : RoomG k X.A) (hb : Binds X.K fd ps []) : OpR X (compareOp .In) (rOwnIn C sp) := by
  intro pins s σ H x y v u Q I rx ry h
  obtain ⟨b, dx, fs, rfl, hbb, hs⟩ := h
  cases ry
  obtain ⟨mA, J, _⟩ := ins_get I.hok hbb
  obtain ⟨od, J, _⟩ := J.look
  obtain ⟨m, hF⟩ := I.fr
  refine PySem.W.in_K hF I.ok.mod.kin J M.at_ M.fn (wpAny_mono (run_fnG (us := [.ref b, v]) (vs := [.ref b, x]) Fn hr hb .nil pass0F I (.cons rfl (.cons rx .nil)) hs) (fun r s' q => ?_) fun _ _ z => z)
  obtain ⟨w, H', I', rw_, rr, e, q⟩ := q
  subst e
  cases rw_
  exact wpAny_truthy_bool ⟨.bl rr, H', I', rfl, q⟩
theorem op_ninOwn {C : Addr} (M : Meth X.K C "__contains__" f) (Fn : FnG X.prog X.w X.K X.mg X.base k f fd ps sp) (hr : RoomG k X.A) (hb : Binds X.K fd ps []) : OpR X (compareOp .NotIn) (rOwnNin C sp) := by
  intro pins s σ H x y v u Q I rx ry h
  obtain ⟨b, dx, fs, rfl, hbb, hs⟩ := h
  cases ry
  obtain ⟨mA, J, _⟩ := ins_get I.hok hbb
  obtain ⟨od, J, _⟩ := J.look
  obtain ⟨m, hF⟩ := I.fr
  refine PySem.W.notIn_K hF I.ok.mod.kin J M.at_ M.fn (wpAny_mono (run_fnG (us := [.ref b, v]) (vs := [.ref b, x]) Fn hr hb .nil pass0F I (.cons rfl (.cons rx .nil)) hs) (fun r s' q => ?_) fun _ _ z => z)
  obtain ⟨w, H', I', rw_, rr, e, q⟩ := q
  subst e
  cases rw_
  exact wpAny_truthy_bool ⟨.bl (!rr), H', I', rfl, q⟩
def boolR : FR D → FR D
  | .ok (.bl r) => .ok (.bl r)
  | _ => .stuck
def nboolR : FR D → FR D
  | .ok (.bl r) => .ok (.bl (!r))
  | _ => .stuck
theorem boolR_cases (r : FR D) : (∃ b, r = .ok (.bl b)) ∨ boolR r = .stuck ∧ nboolR r = .stuck := by
  cases r with
  | ok x => cases x with
    | bl b => exact .inl ⟨b, rfl⟩
    | _ => exact .inr ⟨rfl, rfl⟩
  | _ => exact .inr ⟨rfl, rfl⟩
/-- a in b; b may be an instance of the class c with an own __contains__ -/
def inO (c : Str) (m : List D → FR D) (a b : D) : FR D := match b with
  | .obj c' ns ds => if c' = c then boolR (m [.obj c' ns ds, a]) else .stuck
  | _ => inD a b
def ninO (c : Str) (m : List D → FR D) (a b : D) : FR D := match b with
  | .obj c' ns ds => if c' = c then nboolR (m [.obj c' ns ds, a]) else .stuck
  | _ => ninD a b
theorem OA.inO (hu : X.A.units + 64 < cLine) (M : Meth X.K (He.ga X.K c) "__contains__" f) (Fn : FnG X.prog X.w X.K X.mg X.base k f fd ps (PSp X.K 2 m)) (hr : RoomG k X.A) (hb : Binds X.K fd ps []) : OA X W (compareOp .In) (inO c m) := by
  obtain ⟨r, p, q⟩ := OA.in_ (X := X) (W := W) hu
  refine ⟨_, p.or (op_inOwn M Fn hr hb), fun G σ H F ρ x y dx dy Q S rx ry hg => ?_⟩
  cases dy with
  | obj c' ns ds =>
    cases ry with
    | @obj a dxx _ _ vs fs _ h1 h2 h3 h4 =>
      have gg : Good X.K G W σ F ((if c' = c then boolR (m [.obj c' ns ds, dx]) else .stuck).lift ρ) (PD X.K Q) := hg
      clear hg
      split at gg
      · rename_i hc
        subst hc
        refine .inr ⟨_, _, _, rfl, S.sub _ _ h1, rfl, F, [.obj c' ns ds, dx], S.pre, .cons (.obj h1 h2 h3 h4) (.cons rx .nil), ?_⟩
        rcases boolR_cases (m [.obj c' ns ds, dx]) with ⟨r, hm⟩ | z
        · rw [hm] at gg
          exact goodF0 S (fun d e v H' F' S' s' rv => by
            rw [hm] at e
            cases e
            cases rv
            exact ⟨r, rfl, gg H' F' S' s' _ (.bl _)⟩) ⟨_, hm⟩
        · first | rw [z.1] at gg | rw [z.2] at gg
          exact gg.elim
      · exact gg.elim
  | _ => exact .inl (q G σ H F ρ x y dx _ Q S rx ry hg)
theorem OA.ninO (hu : X.A.units + 64 < cLine) (M : Meth X.K (He.ga X.K c) "__contains__" f) (Fn : FnG X.prog X.w X.K X.mg X.base k f fd ps (PSp X.K 2 m)) (hr : RoomG k X.A) (hb : Binds X.K fd ps []) : OA X W (compareOp .NotIn) (ninO c m) := by
  obtain ⟨r, p, q⟩ := OA.notIn (X := X) (W := W) hu
  refine ⟨_, p.or (op_ninOwn M Fn hr hb), fun G σ H F ρ x y dx dy Q S rx ry hg => ?_⟩
  cases dy with
  | obj c' ns ds =>
    cases ry with
    | @obj a dxx _ _ vs fs _ h1 h2 h3 h4 =>
      have gg : Good X.K G W σ F ((if c' = c then nboolR (m [.obj c' ns ds, dx]) else .stuck).lift ρ) (PD X.K Q) := hg
      clear hg
      split at gg
      · rename_i hc
        subst hc
        refine .inr ⟨_, _, _, rfl, S.sub _ _ h1, rfl, F, [.obj c' ns ds, dx], S.pre, .cons (.obj h1 h2 h3 h4) (.cons rx .nil), ?_⟩
        rcases boolR_cases (m [.obj c' ns ds, dx]) with ⟨r, hm⟩ | z
        · rw [hm] at gg
          exact goodF0 S (fun d e v H' F' S' s' rv => by
            rw [hm] at e
            cases e
            cases rv
            exact ⟨r, rfl, gg H' F' S' s' _ (.bl _)⟩) ⟨_, hm⟩
        · first | rw [z.1] at gg | rw [z.2] at gg
          exact gg.elim
      · exact gg.elim
  | _ => exact .inl (q G σ H F ρ x y dx _ Q S rx ry hg)
end
end Mr
namespace Mr
open PySem PySem.Spec PyProof.Rows L2
variable [Lam] [Pins]

mutual
/-- no list, no instance is in it -/
def noL : D → Bool
  | .non => true
  | .bl _ => true
  | .int _ => true
  | .str _ => true
  | .tup xs => noLs xs
  | .lst _ => false
  | .frz _ => false
  | .obj _ _ ds => noLs ds
  | .dct _ ds => noLs ds
  | .opq _ => true
  | .any => true
def noLs : List D → Bool
  | [] => true
  | x :: xs => noL x && noLs xs
end
mutual
theorem Rep.without {K : PySem.W.Frag} {F F' : Hp} {a : Addr} {vs : List V} (hF : F a = some (.lst vs)) (s : ∀ b o, b ≠ a → F b = some o → F' b = some o) : ∀ {v : V} {d : D}, Rep K F v d → noL d = true → Rep K F' v d
  | _, _, .non, _ => .non
  | _, _, .bl b, _ => .bl b
  | _, _, .int i, _ => .int i
  | _, _, .str x, _ => .str x
  | _, .tup ds, .tup (a := b) h r, e => .tup (h.elim (fun h => .inl (h.elim (fun h => .inl (s _ _ (fun z => by subst z; rw [hF] at h; cases h) h)) fun ⟨o, h⟩ => .inr ⟨o, s _ _ (fun z => by subst z; rw [hF] at h; cases h) h⟩)) .inr) (Reps.without hF s r (by rw [noL] at e; exact e))
  | _, _, .lst _ _, e => by rw [noL] at e; cases e
  | _, _, .frz _ _, e => by rw [noL] at e; cases e
  | _, _, .obj h e1 l r, e => .obj (s _ _ (fun z => by subst z; rw [hF] at h; cases h) h) e1 l (Reps.without hF s r (by rw [noL] at e; exact e))
  | _, _, .dct h l r, e => .dct (s _ _ (fun z => by subst z; rw [hF] at h; cases h) h) l (Reps.without hF s r (by rw [noL] at e; exact e))
  | _, _, .opq v, _ => .opq v
  | _, _, .any v h, _ => .any v h
theorem Reps.without {K : PySem.W.Frag} {F F' : Hp} {a : Addr} {vs : List V} (hF : F a = some (.lst vs)) (s : ∀ b o, b ≠ a → F b = some o → F' b = some o) : ∀ {vs : List V} {ds : List D}, Reps K F vs ds → noLs ds = true → Reps K F' vs ds
  | _, _, .nil, _ => .nil
  | _, _, .cons h r, e => by
    rw [noLs, Bool.and_eq_true] at e
    exact .cons (Rep.without hF s h e.1) (Reps.without hF s r e.2)
end
section
variable {X : Cx} {W : WX} {K : PySem.W.Frag} {G : Ent} {σ : St} {H F H' F' : Hp} {ρ ρ' : Ro} {e : Expr} {f : M D} {j : Nat} {xs : List D} {a : Addr} {vs : List V}
end
def listN : List D → FR (List D)
  | [.lst xs] => .ok xs
  | [.tup xs] => .ok xs
  | [.frz xs] => .ok xs
  | _ => .stuck
/-- list(e) -/
def mListN (fs : M (List D)) : M (List D) := fun ρ => (fs ρ).bind fun ds ρ => (listN ds).lift ρ
def addN : D → D → FR (List D)
  | .lst xs, .lst ys => if xs.length + ys.length ≤ sizeLine then .ok (xs ++ ys) else .stuck
  | _, _ => .stuck
def mulN : D → D → FR (List D)
  | .lst xs, .int k => if I63 k ∧ xs.length * k.toNat ≤ sizeLine then .ok (List.replicate k.toNat xs).flatten else .stuck
  | _, _ => .stuck
def mBinN (g : D → D → FR (List D)) (a b : M D) : M (List D) := fun ρ => (a ρ).bind fun x ρ => (b ρ).bind fun y ρ => (g x y).lift ρ
/-- x.pop(e) -/
def mPopAt (j : Nat) (fe : M D) : M D := fun ρ => match ρ.getD j .un with
  | .own _ _ => (fe ρ).bind fun v ρ => match ρ.getD j .un, v with
    | .own p xs, .int i => match seqIndex? i xs.length with
      | some k => if I63 i then match xs[k]? with
        | some d => .ok d (ρ.set j (.own p (xs.eraseIdx k)))
        | none => .stuck
        else .stuck
      | none => .stuck
    | _, _ => .stuck
  | _ => .stuck
/-- a list extended by a tuple -/
theorem list_extend_tupleW (l : Addr) (items : Array Value) (n : Nat) (b : Addr) (items2 : Array Value) (n2 : Nat) (dd : Option Addr) (sl : Array (Option Value)) (hs0 : ¬(!items.isEmpty && Builtin.List.listTooLong (items.size + items2.size)) = true) (hs1 : items.size ≤ sizeLine) (hs2 : items.size + items2.size ≤ sizeLine + 1) :
    Meets (Builtin.«list.extend» ⟨[.ref l, .ref b], []⟩) (fun _ R s => s.heap.get? l = some { cls := .type "list", dict := none, data := .seq items n, slots := #[] } ∧ s.heap.get? b = some { cls := .type "tuple", dict := dd, data := .seq items2 n2, slots := sl } ∧ R (.ok (.ret Value.none)) { s with heap := s.heap.update l (Obj.mapSeq fun x => x ++ items2), toks := s.toks }) :=
  .of_wp fun prog w A R s h => by
    obtain ⟨hp, g, d, tk, os⟩ := s
    obtain ⟨hl, hb, h⟩ := h
    have f1 := AutoSeq1.idx_int
    have f2 := AutoSeq1.sub_tuple_tuple
    have f3 := AutoSeq1.sub_list_list
    have f4 := AutoSeq1.sub_tuple_list
    have f5 := AutoSeq1.sub_list_tuple
    have hz' : (items ++ items2).size ≤ sizeLine + 1 := by rw [Array.size_append]; exact hs2
    wp_walk using (wpAny_updateSeq hl rfl (hz := hs1) (_hz' := hz')), wpAny_loadPart' hl, wpAny_loadPart' hb
    exact ⟨_, rfl, h⟩
def rExtendT (K : PySem.W.Frag) : V → List V → Hp → VK → Prop := fun x vs H Q => ∃ l b xs zs, x = .ref l ∧ vs = [.ref b] ∧ H l = some (.lst xs) ∧ SqT K H b zs ∧ xs.length + zs.length ≤ sizeLine ∧ Q .non (upd H l (.lst (xs ++ zs)))
theorem mt_extendT {X : Cx} : MtM X "list.extend" (rExtendT X.K) := by
  intro pins s σ H x vs v us Q I rx rv h
  obtain ⟨l, b, xs, zs, rfl, rfl, hH, hB, hz, q⟩ := h
  cases rx
  obtain ⟨u, rfl, ru⟩ := rv.one
  cases ru
  obtain ⟨z, its, n, r, hl, e⟩ := I.lstM hH
  obtain ⟨its2, r2, ⟨⟨cls, dd, data, sl⟩, ho, hc, n2, hd⟩, hs⟩ := I.tuple hB
  simp only at hc hd
  subst hc hd
  have l2 := r2.length
  have hsz : its.toArray.size + its2.toArray.size ≤ sizeLine := by rw [List.size_toArray, List.size_toArray]; omega
  have hlong : ¬ (!its.toArray.isEmpty && Builtin.List.listTooLong (its.toArray.size + its2.toArray.size)) = true := by
    rw [notLongL hsz, Bool.and_false]
    exact Bool.false_ne_true
  refine call_meets PySem.F.slot_list_extend ⟨_, e, rfl⟩ PySem.F.entry_list_extend (PySem.F.args_list_extend_2 _ _)
    (list_extend_tupleW l its.toArray n b its2.toArray n2 dd sl hlong (by rw [List.size_toArray]; omega) (by omega)) ⟨e, ho, ?_⟩
  refine ⟨.non, _, I.lset (its' := its ++ its2) hH e (by simp) (r.append r2) ?_, rfl, q⟩
  rw [List.length_append]
  omega
theorem MtM.or {X : Cx} {id : String} {r r' : V → List V → Hp → VK → Prop} (h : MtM X id r) (h' : MtM X id r') : MtM X id (fun x xs H Q => r x xs H Q ∨ r' x xs H Q) := by
  intro pins s σ H x xs v us Q I rx rs q
  rcases q with q | q
  · exact h pins s σ H x xs v us Q I rx rs q
  · exact h' pins s σ H x xs v us Q I rx rs q
/-- x.extend(e) -/
def mExt (j : Nat) (fe : M D) : M D := fun ρ => match ρ.getD j .un with
  | .own _ _ => (fe ρ).bind fun v ρ => match ρ.getD j .un, v with
    | .own p xs, .lst ys => if xs.length + ys.length ≤ sizeLine then .ok .non (ρ.set j (.own p (xs ++ ys))) else .stuck
    | .own p xs, .tup ys => if xs.length + ys.length ≤ sizeLine then .ok .non (ρ.set j (.own p (xs ++ ys))) else .stuck
    | _, _ => .stuck
  | _ => .stuck
theorem reps_erase {K : PySem.W.Frag} {F : Hp} : ∀ {vs : List V} {ds : List D} (k : Nat), Reps K F vs ds → Reps K F (vs.eraseIdx k) (ds.eraseIdx k)
  | _, _, _, .nil => .nil
  | _, _, 0, .cons _ r => r
  | _, _, k + 1, .cons h r => .cons h (reps_erase k r)
theorem reps_get {K : PySem.W.Frag} {F : Hp} {vs : List V} {ds : List D} {k : Nat} {d : D} (r : Reps K F vs ds) (h : ds[k]? = some d) : ∃ v, vs[k]? = some v ∧ Rep K F v d := r.get k h
section
variable {X : Cx} {W : WX} {a b e : Expr} {es : List Expr} {fa fb fe : M D} {fs : M (List D)} {pos py : Pos} {y : Str}
theorem newOwn {G : Ent} {σ : St} {H F : Hp} {ρ : Ro} {vs : List V} {ds : List D} {Q : VK} {p : Addr} (S : Stt X.K G σ H F ρ) (r : Reps X.K F vs ds) (g : Good X.K G W σ F (.ok ds ρ) (fun ds ρ' H' F' => ∀ a vs H2, Stt X.K ⟨G.H0, G.F0, G.io, (a, .lst vs) :: G.xt⟩ σ H2 F' ρ' → Reps X.K F' vs ds → Q (.ref a) H2)) (hp : H p = none) :
    Q (.ref p) (upd H p (.lst vs)) := g H F S Sm.refl p vs _ (S.xtNew hp) r
theorem AN.list {px : Pos} (hg : Gl X "list") (hm : X.mg "list" = none) (ha : AA X W (a :: es) fs) (he : starEach (a :: es) X.env = (false, eval a X.env) :: starEach es X.env := by rfl) (hpl : (backTo pos (starEach es X.env)).any (·.1) = false := by rfl) :
    AN X W (.Call (.Name "list" px) (a :: es) [] pos) (mListN fs) := by
  obtain ⟨t, pa, qa⟩ := ha
  refine ⟨_, pe_callTy (T := "list") call_list_of hg hm (by decide +kernel) pa (by decide) (by decide) he hpl, fun G σ H F ρ Q S hgd => qa G σ H F ρ _ S (hgd.bind fun ds ρ1 H1 F1 S1 s1 g1 vs r => ?_)⟩
  unfold listN at g1
  split at g1
  · obtain ⟨v, rfl, rv⟩ := reps1 r
    cases rv with
    | lst hx rx => exact ⟨_, _, rfl, .inl (.of (S1.sub _ _ hx)), fun l hl => newOwn S1 rx g1 hl⟩
  · obtain ⟨v, rfl, rv⟩ := reps1 r
    cases rv with
    | tup hx rx => exact ⟨_, _, rfl, .inr (SqTm S1.sub hx), fun l hl => newOwn S1 rx g1 hl⟩
  · obtain ⟨v, rfl, rv⟩ := reps1 r
    cases rv with
    | frz hx rx => exact ⟨_, _, rfl, .inl (SqLm S1.sub hx), fun l hl => newOwn S1 rx g1 hl⟩
  · exact g1.elim
theorem AN.add (ha : AE X W a fa) (hb : AE X W b fb) : AN X W (.BinOp a .Add b pos) (mBinN addN fa fb) := by
  obtain ⟨ta, pa, qa⟩ := ha
  obtain ⟨tb, pb, qb⟩ := hb
  refine ⟨_, pe_op op_cat pa pb, fun G σ H F ρ Q S hg => qa G σ H F ρ _ S (hg.bind fun dx ρ1 H1 F1 S1 s1 g1 v r1 => qb G σ H1 F1 ρ1 _ S1 (g1.bind fun dy ρ2 H2 F2 S2 s2 g2 u r2 => ?_))⟩
  unfold addN at g2
  split at g2
  · rename_i xs ys
    split at g2
    · rename_i hz
      have r1 := r1.mono s2
      cases r1 with
      | lst hx rx => cases r2 with
        | lst hy ry => exact ⟨_, _, _, _, rfl, rfl, S2.sub _ _ hx, S2.sub _ _ hy, by rw [rx.length, ry.length]; exact hz, fun p hp => newOwn S2 (rx.append ry) g2 hp⟩
    · exact g2.elim
  · exact g2.elim
theorem AN.mul (ha : AE X W a fa) (hb : AE X W b fb) : AN X W (.BinOp a .Mult b pos) (mBinN mulN fa fb) := by
  obtain ⟨ta, pa, qa⟩ := ha
  obtain ⟨tb, pb, qb⟩ := hb
  refine ⟨_, pe_op op_rep pa pb, fun G σ H F ρ Q S hg => qa G σ H F ρ _ S (hg.bind fun dx ρ1 H1 F1 S1 s1 g1 v r1 => qb G σ H1 F1 ρ1 _ S1 (g1.bind fun dy ρ2 H2 F2 S2 s2 g2 u r2 => ?_))⟩
  unfold mulN at g2
  split at g2
  · rename_i xs k
    split at g2
    · rename_i hz
      have r1 := r1.mono s2
      cases r1 with
      | lst hx rx => cases r2 with
        | int => exact ⟨_, k, _, rfl, rfl, S2.sub _ _ hx, hz.1.1, hz.1.2, by rw [rx.length]; exact hz.2, fun p hp => newOwn S2 (reps_rep rx _) g2 hp⟩
    · exact g2.elim
  · exact g2.elim
/-- what is one's own is changed in place by a method -/
theorem own_put {G : Ent} {σ : St} {H1 F1 : Hp} {ρ1 : Ro} {j : Nat} {p : Bool} {xs ys : List D} {a : Addr} {ws us : List V} (S1 : Stt X.K G σ H1 F1 ρ1) (e4 : ρ1.getD j .un = .own p xs) (e1 : σ[j]? = some (some (V.ref a))) (f3 : F1 a = none) (r : Reps X.K F1 us ys) :
    Stt X.K G σ (upd H1 a (.lst us)) F1 (ρ1.set j (.own p ys)) :=
  S1.change (by rw [e4]; rfl) e1 (S1.own_upd (by rw [e4]; rfl) e1) (fun b o h => by
    by_cases eb : b = a
    · subst eb; rw [f3] at h; cases h
    · rw [upd_ne eb]; exact S1.sub b o h) Sm.refl (fun _ _ h => .inl h) S1.ft ⟨a, _, rfl, upd_same, f3, r⟩ rfl (by rw [e4]; rfl)
theorem AE.popAt {j : Nat} {ap cp : Pos} (h0 : PE X (.Name y py) (tVar j)) (ha : AE X W e fe) (hst : starEach [e] X.env = (false, eval e X.env) :: starEach [] X.env := by rfl)
    (hbase : attributeBase (.Name y py) "pop" X.env (eval (.Name y py) X.env) = eval (.Name y py) X.env := by rfl)
    (hfew : ((backTo cp (starEach [e] X.env)).all (fun x => !x.1) && (backToKw cp (keywordEach [] X.env)).all (fun x => x.1.isSome)
      && decide ([e].length + ([] : List Keyword).length + (if ([] : List Keyword).isEmpty then 0 else 1) < 30)) = true := by rfl)
    (hline : (ap.endLine == cp.line) = true := by rfl) (hplain : (backTo cp (starEach [] X.env)).any (·.1) = false := by rfl) :
    AE X W (.Call (.Attribute (.Name y py) "pop" ap) [e] [] cp) (mPopAt j fe) := by
  obtain ⟨t, p, q⟩ := ha
  refine ⟨_, pe_bm PySem.F.plainAttrs_list PySem.F.slot_list_pop PySem.F.type_list_pop mt_popAt h0 (pa_cons p pa_nil hst) hbase hfew hline hst hplain, fun G σ H F ρ Q S hg => ?_⟩
  unfold mPopAt at hg
  split at hg
  · rename_i p0 xs0 e0
    obtain ⟨a, vs, e1, e2, e3, r⟩ := own_at S e0
    refine ⟨_, e1, .inl ⟨rfl, vs, .of e2⟩, q G σ H F ρ _ S (hg.bind fun v ρ1 H1 F1 S1 s1 g1 w rw_ => ?_)⟩
    split at g1
    · rename_i p1 xs i e4
      obtain ⟨a', ws, f1, f2, f3, r'⟩ := own_at S1 e4
      rw [e1] at f1; cases f1
      cases rw_
      split at g1
      · rename_i k hk
        split at g1
        · rename_i hz
          split at g1
          · rename_i d hd
            obtain ⟨u, eu, ru⟩ := reps_get r' hd
            exact ⟨a, ws, i, k, u, rfl, rfl, f2, hz.1, hz.2, by rw [r'.length]; exact hk, eu, g1 _ F1 (own_put (ws := ws) S1 e4 e1 f3 (reps_erase k r')) Sm.refl _ ru⟩
          · exact g1.elim
        · exact g1.elim
      · exact g1.elim
    · exact g1.elim
  · exact hg.elim
theorem AE.ext {j : Nat} {ap cp : Pos} (h0 : PE X (.Name y py) (tVar j)) (ha : AE X W e fe) (hst : starEach [e] X.env = (false, eval e X.env) :: starEach [] X.env := by rfl)
    (hbase : attributeBase (.Name y py) "extend" X.env (eval (.Name y py) X.env) = eval (.Name y py) X.env := by rfl)
    (hfew : ((backTo cp (starEach [e] X.env)).all (fun x => !x.1) && (backToKw cp (keywordEach [] X.env)).all (fun x => x.1.isSome)
      && decide ([e].length + ([] : List Keyword).length + (if ([] : List Keyword).isEmpty then 0 else 1) < 30)) = true := by rfl)
    (hline : (ap.endLine == cp.line) = true := by rfl) (hplain : (backTo cp (starEach [] X.env)).any (·.1) = false := by rfl) :
    AE X W (.Call (.Attribute (.Name y py) "extend" ap) [e] [] cp) (mExt j fe) := by
  obtain ⟨t, p, q⟩ := ha
  refine ⟨_, pe_bm PySem.F.plainAttrs_list PySem.F.slot_list_extend PySem.F.type_list_extend (MtM.or mt_extend mt_extendT) h0 (pa_cons p pa_nil hst) hbase hfew hline hst hplain, fun G σ H F ρ Q S hg => ?_⟩
  unfold mExt at hg
  split at hg
  · rename_i p0 xs0 e0
    obtain ⟨a, vs, e1, e2, e3, r⟩ := own_at S e0
    refine ⟨_, e1, .inl ⟨rfl, vs, .of e2⟩, q G σ H F ρ _ S (hg.bind fun v ρ1 H1 F1 S1 s1 g1 w rw_ => ?_)⟩
    split at g1
    · rename_i p1 xs ys e4
      obtain ⟨a', ws, f1, f2, f3, r'⟩ := own_at S1 e4
      rw [e1] at f1; cases f1
      split at g1
      · rename_i hz
        cases rw_ with
        | lst hy ry => exact .inl ⟨a, _, ws, _, rfl, rfl, f2, S1.sub _ _ hy, by rw [r'.length, ry.length]; exact hz, g1 _ F1 (own_put (ws := ws) S1 e4 e1 f3 (r'.append ry)) Sm.refl _ .non⟩
      · exact g1.elim
    · rename_i p1 xs ys e4
      obtain ⟨a', ws, f1, f2, f3, r'⟩ := own_at S1 e4
      rw [e1] at f1; cases f1
      split at g1
      · rename_i hz
        cases rw_ with
        | tup hy ry => exact .inr ⟨a, _, ws, _, rfl, rfl, f2, SqTm S1.sub hy, by rw [r'.length, ry.length]; exact hz, g1 _ F1 (own_put (ws := ws) S1 e4 e1 f3 (r'.append ry)) Sm.refl _ .non⟩
      · exact g1.elim
    · exact g1.elim
  · exact hg.elim
end
end Mr
namespace Mr
open PySem PySem.Spec PyProof.Rows L2
variable [Lam] [Pins]
theorem enum_new1 {v : Value} {o : Obj} {J : Heap → Prop} (B : Begins v o J) :
    Meets (Builtin.«enumerate.__new__» ⟨[.type "enumerate", v], []⟩) (fun _ R s => J s.heap ∧
      R (.ok (.ret (.ref (s.heap.push o).objs.size))) { s with heap := (s.heap.push o).push { cls := .type "enumerate", data := .fields #[.none, .bool false, .ref s.heap.objs.size, rawInt 0, .none, .none] } }) :=
  .of_wp fun prog w A R s hh => by
    obtain ⟨hp, g, d, tk, os⟩ := s
    obtain ⟨hj, hr⟩ := hh
    have subE := sub_enumerate
    have it1 : ∀ {A1 : Around} {E1 : Value → Shared → Prop} {Q1 : Value → Shared → Prop}, Q1 (.ref hp.objs.size) ⟨hp.push o, g, d, tk, os⟩ → wpAny (model prog w) A1 (pyIter v) Q1 E1 ⟨hp, g, d, tk, os⟩ :=
      fun q => B.iter prog w _ _ ⟨hp, g, d, tk, os⟩ _ hj q
    wp_walk using it1
    refine wpAny_stack_any fun st => wpAny_pure ?_
    split
    · rename_i c _ _ _ _ _
      cases (c == Value.type "enumerate") <;>
        (wp_walk using it1
         exact ⟨_, rfl, hr⟩)
    · wp_walk using it1
      exact ⟨_, rfl, hr⟩
theorem enum_call1 {prog : Program} {w : World} {A : Around} {E : Value → Shared → Prop} {s : Shared} {v : Value} {o : Obj} {J : Heap → Prop} {Q : Value → Shared → Prop} (B : Begins v o J) (hj : J s.heap)
    (hq : ∀ h', IsEnum h' (s.heap.objs.size + 1) s.heap.objs.size 0 .none → h'.get? s.heap.objs.size = some o → h'.objs.size = s.heap.objs.size + 2 →
      (∀ b u, s.heap.get? b = some u → h'.get? b = some u) → Q (.ref (s.heap.objs.size + 1)) { s with heap := h' }) :
    wpAny (model prog w) A (call (.type "enumerate") [v]) Q E s := by
  refine callType_new F.called_enumerate (by decide) (F.typeCall_enumerate_1 _) (F.newCall_enumerate_1 _) (fun obj => F.args_object_init_2 obj _) F.entry_enumerate_new (enum_new1 B) ⟨hj, ?_⟩
  obtain ⟨z, hz⟩ : ∃ z, z = (s.heap.push o).objs.size := ⟨_, rfl⟩
  have ez : z = s.heap.objs.size + 1 := hz.trans (Heap.size_push ..)
  show _ ∧ _
  rw [← hz]
  have he : ∀ e : Obj, e.isFreed = false → ((s.heap.push o).push e).get? z = some e := fun e f => hz ▸ Heap.get?_push_size (s.heap.push o) f
  have h1 : IsEnum ((s.heap.push o).push { cls := .type "enumerate", data := .fields #[.none, .bool false, .ref s.heap.objs.size, rawInt 0, .none, .none] }) z s.heap.objs.size 0 .none := he _ rfl
  refine ⟨⟨_, h1, rfl⟩, ?_⟩
  rw [ez] at h1 ⊢
  exact hq _ h1 (Heap.get?_push_of_some _ (Heap.get?_push_size _ B.free)) (by rw [Heap.size_push, ← hz, ez]) fun b u q => Heap.get?_push_of_some _ (Heap.get?_push_of_some _ q)
/-- the tuple at a, each item in a new pair with its index -/
def IteT (K : PySem.W.Frag) (a : Addr) : It :=
  ⟨fun i H => ∃ (xs : List V) (x : V), SqT K H a xs ∧ xs[i]? = some x,
    fun i H v H' => ∃ T x, v = .ref T ∧ H T = none ∧ H' = upd H T (.tup [.int (i : Nat), x]) ∧ ∀ xs, SqT K H a xs → xs[i]? = some x,
    fun i H => ∃ xs : List V, SqT K H a xs ∧ xs.length ≤ i⟩
theorem turn_enumT {P : Program} {w : World} {K : PySem.W.Frag} {elts : List Expr} {kk : Nat} {tpos : Pos} (a e it : Addr) :
    Turn P w K (.Tuple elts kk tpos) (IteT K a) [e, it] e (fun i h => (∃ old, IsEnum h e it ((i : Nat) : Int) old) ∧ h.IsTupleIter it a i ∧ e ≠ it ∧ a ≠ it ∧ a ≠ e) where
  mem := by simp
  obj := fun i h st b hb => by
    obtain ⟨⟨old, he⟩, ⟨o, ho, hc, hd⟩, _⟩ := st
    rcases (by simpa using hb : b = e ∨ b = it) with rfl | rfl
    · exact ⟨_, he, fun v q => nomatch q⟩
    · exact ⟨o, ho, fun v q => by rw [hd] at q; cases q⟩
  keep := fun i h h' st k => let ⟨⟨old, he⟩, hi, r⟩ := st; ⟨⟨old, k e (by simp) _ he⟩, hi.at fun o q => k it (by simp) o q, r⟩
  item := by
    intro X hP hw hK hc i pins s σ H E I hf st hg
    subst hP hw hK
    obtain ⟨⟨old, he⟩, hit, ne1, ne2, ne3⟩ := st
    obtain ⟨xs, x, hq, hx⟩ := hg
    obtain ⟨its, rv, p, hz⟩ := I.tuple hq
    obtain ⟨u, hu, ru⟩ := rv.get hx
    have le : e < s.heap.objs.size := Heap.lt_size he
    have li : it < s.heap.objs.size := by obtain ⟨_, q, _⟩ := hit; exact Heap.lt_size q
    have hi : i < its.toArray.size := by
      have := (List.getElem?_eq_some_iff.mp hu).1
      simpa using this
    have D := Draws.tuple (prog := X.prog) (w := X.w) (A := X.A.in1) (by simpa using I.ok.hd hc) it a ne2 its.toArray
    refine wpAny_pyNext_enum_itemD D he ⟨hit, p⟩ hi ne1 (by simp [ne1, Ne.symm ne3]) fun y h' tk hy ho hs' hT hsz hk => ?_
    have ey : y = u := by
      have : its[i]? = some y := by simpa using hy
      rw [hu] at this; cases this; rfl
    subst ey
    refine ⟨_, rfl, wpAny_letOwnedTupleGo_enum (s := { s with heap := h', toks := tk + 1 }) ho fun h'' he' sb => ?_⟩
    have hT2 : h''.get? s.heap.objs.size = some { cls := .type "tuple", data := .seq #[.int i tk, y] } := (sb.2 _ (Nat.ne_of_gt le)).trans hT
    have new : ObjOk X.prog X.w (upd H s.heap.objs.size (.tup [.int (i : Nat), x])) h'' s.heap.objs.size (.tup [.int (i : Nat), x]) :=
      ⟨by show 2 ≤ sizeLine; decide, [.int i tk, y], .cons ⟨_, rfl⟩ (.cons ru .nil), ⟨_, hT2, rfl, _, rfl⟩⟩
    have J : Inv X pins σ (upd H s.heap.objs.size (.tup [.int (i : Nat), x])) { s with heap := h'', toks := tk + 1 } :=
      I.turnedNew (ch := [e, it]) (fun b ob hb q => (sb.2 b (fun z => hb (by simp [z]))).trans (hk b ob (fun z => hb (by simp [z])) (fun z => hb (by simp [z])) q)) hf (Nat.le_refl _) new
    refine ⟨.ref s.heap.objs.size, _, J, rfl, ⟨_, x, rfl, I.hok.fresh (Nat.le_refl _), rfl, fun ys hy => ?_⟩, ⟨⟨y, ?_⟩, hs'.1.at fun o q => (sb.2 it (Ne.symm ne1)).trans q, ne1, ne2, ne3⟩, fun b hb => ?_⟩
    · have e1 := I.tuple_inj hy hq
      rw [e1]; exact hx
    · rw [show ((i + 1 : Nat) : Int) = (i : Int) + 1 by omega]; exact he'
    · have lb : b < s.heap.objs.size := by
        rcases (by simpa using hb : b = e ∨ b = it) with rfl | rfl
        · exact le
        · exact li
      rw [upd_ne (Nat.ne_of_lt lb)]
      exact (hf b hb).1
  done := by
    intro X hP hw hK hc i pins s σ H E I hf st hg
    subst hP hw hK
    obtain ⟨⟨old, he⟩, hit, ne1, ne2, ne3⟩ := st
    obtain ⟨xs, hq, hx⟩ := hg
    obtain ⟨its, rv, p, hz⟩ := I.tuple hq
    obtain ⟨f0, f1, f2, f3, f4, f5⟩ := hf it (by simp)
    have hl := rv.length
    have hh : X.A.in1.handled = none := by simpa using I.ok.hd hc
    have D : Draws X.prog X.w X.A.in1 it [it, a] i (fun _ _ => True) (fun j h => j = i ∧ h.IsTupleIter it a i ∧ h.IsTuple a its.toArray) :=
      { live := fun j h st => let ⟨_, ⟨o, ho, _⟩, _⟩ := st; ⟨o, ho⟩
        frame := fun j h h' st k => ⟨st.1, st.2.1.at fun o q => k it (by simp) o q, st.2.2.at fun o q => k a (by simp) o q⟩
        item := fun j s Q E hj st _ => absurd st.1 (by omega)
        done := fun s Q E st hE => wpAny_nextOf_tuple_end hh st.2.1 st.2.2 (by simp; omega) hE }
    exact wpAny_pyNext_enum_endD D he ⟨rfl, hit, p⟩ fun h' eb => ⟨rfl, I.turned (t' := s.toks) (fun b o hb q => eb b o hb q) f0 f1 f3 f4 f5⟩
  self := fun A i s Q E st h => let ⟨⟨_, he⟩, _⟩ := st; wpAny_pyIter_enum he h
/-- what enumerate gives -/
def enumL (xs : List D) : List D := (List.range xs.length).zipWith (fun (i : Nat) x => .tup [.int i, x]) xs
def enumD : List D → FR (List D)
  | [.lst xs] => .ok (enumL xs)
  | [.frz xs] => .ok (enumL xs)
  | [.tup xs] => .ok (enumL xs)
  | _ => .stuck
section
variable {X : Cx} {W : WX}
def iEnumA (K : PySem.W.Frag) (ta : TA) : TI := fun σ H R => ta σ H fun vs H1 => ∃ a xs, vs = [.ref a] ∧ ((SqL K H1 a xs ∧ R (Ite K a) H1) ∨ (SqT K H1 a xs ∧ R (IteT K a) H1))
theorem pi_enumA {e : Expr} {ta : TA} {p pos tpos : Pos} {elts : List Expr} {kk : Nat} (hg : Gl X "enumerate") (hm : X.mg "enumerate" = none) (ha : PA X [e] ta) (hs : starEach [e] X.env = [(false, eval e X.env)] := by rfl) :
    PI X (.Tuple elts kk tpos) (.Call (.Name "enumerate" p) [e] [] pos) (iEnumA X.K ta) := by
  refine ⟨fun pins s σ H R I h => Call_ (ld_blt I hg hm boot_enumerate (PyProof.Rows.callWith_type1 (thn (ha.run pos pins s σ H _ I h) fun us s1 ⟨vs, H1, I1, r1, q1⟩ => ?_) hs rfl))⟩
  obtain ⟨a, xs, ex, q⟩ := q1
  subst ex
  cases r1 with
  | cons r rr =>
    cases rr
    cases r
    have fresh : ∀ b : Addr, b = s1.heap.objs.size + 1 ∨ b = s1.heap.objs.size → s1.heap.objs.size ≤ b := fun b z => by rcases z with z | z <;> rw [z] <;> first | exact Nat.le_refl _ | exact Nat.le_succ _
    rcases q with ⟨hq, q⟩ | ⟨hq, q⟩
    · obtain ⟨its, rv, p', hz⟩ := I1.list hq
      refine call_enumerate_list p'.isList fun h' he hit hsz hk => wpAny_pyIter_enum he ?_
      have I2 : Inv X pins σ H1 { s1 with heap := h' } := I1.kept (t' := s1.toks) hk
      exact ⟨s1.heap.objs.size + 1, [s1.heap.objs.size + 1, s1.heap.objs.size], _, _, H1, rfl, I2, turn_enum a (s1.heap.objs.size + 1) s1.heap.objs.size, ⟨⟨.none, he⟩, hit, Nat.succ_ne_self _⟩,
        fun b hb => I1.fpOk (fresh b (by simpa using hb)) (I1.hok.fresh (fresh b (by simpa using hb))), q⟩
    · obtain ⟨its, rv, p', hz⟩ := I1.tuple hq
      have la : a < s1.heap.objs.size := by obtain ⟨_, q, _⟩ := p'; exact Heap.lt_size q
      refine enum_call1 (begins_tuple a its.toArray) p' fun h' he hit hsz hk => wpAny_pyIter_enum he ?_
      have I2 : Inv X pins σ H1 { s1 with heap := h' } := I1.kept (t' := s1.toks) hk
      exact ⟨s1.heap.objs.size + 1, [s1.heap.objs.size + 1, s1.heap.objs.size], _, _, H1, rfl, I2, turn_enumT a (s1.heap.objs.size + 1) s1.heap.objs.size,
        ⟨⟨.none, he⟩, ⟨_, hit, rfl, rfl⟩, Nat.succ_ne_self _, Nat.ne_of_lt la, Nat.ne_of_lt (Nat.lt_succ_of_lt la)⟩,
        fun b hb => I1.fpOk (fresh b (by simpa using hb)) (I1.hok.fresh (fresh b (by simpa using hb))), q⟩
theorem enumL_get {xs : List D} {i : Nat} {d : D} (h : (enumL xs)[i]? = some d) : ∃ x, xs[i]? = some x ∧ d = .tup [.int (i : Nat), x] := by
  obtain ⟨j, x, e1, e2, e3⟩ := zip_get h
  rw [List.getElem?_range (List.getElem?_eq_some_iff.mp e2).1] at e1
  cases e1
  exact ⟨x, e2, e3⟩
theorem enumL_len {xs : List D} : (enumL xs).length = xs.length := by unfold enumL; simp
theorem okE {K : PySem.W.Frag} {F : Hp} {a : Addr} {vs : List V} {ds : List D} (h : SqL K F a vs) (r : Reps K F vs ds) : ItOk K (Ite K a) F (enumL ds) := fun i H F' s1 s2 => by
  have h1 := SqLm (s1.tr s2) h
  refine ⟨fun hi => ⟨vs, h1, by rw [r.length]; rw [enumL_len] at hi; exact Nat.le_of_eq hi⟩, fun d hd => ?_⟩
  obtain ⟨x, e1, rfl⟩ := enumL_get hd
  obtain ⟨v, f1, rv⟩ := r.get i e1
  refine ⟨⟨vs, v, h1, f1⟩, fun z H' ⟨T, x', ez, hT, eH, k1⟩ => ?_⟩
  cases (k1 vs h1).symm.trans f1
  subst ez eH
  exact ⟨upd F' T (.tup [.int (i : Nat), v]), .tup s2 hT, .tup (.of upd_same) (.cons (.int _) (.cons (rv.mono (s1.tr (Sm.updN (s2.none hT)))) .nil))⟩
theorem okET {K : PySem.W.Frag} {F : Hp} {a : Addr} {vs : List V} {ds : List D} (h : SqT K F a vs) (r : Reps K F vs ds) : ItOk K (IteT K a) F (enumL ds) := fun i H F' s1 s2 => by
  have h1 := SqTm (s1.tr s2) h
  refine ⟨fun hi => ⟨vs, h1, by rw [r.length]; rw [enumL_len] at hi; exact Nat.le_of_eq hi⟩, fun d hd => ?_⟩
  obtain ⟨x, e1, rfl⟩ := enumL_get hd
  obtain ⟨v, f1, rv⟩ := r.get i e1
  refine ⟨⟨vs, v, h1, f1⟩, fun z H' ⟨T, x', ez, hT, eH, k1⟩ => ?_⟩
  cases (k1 vs h1).symm.trans f1
  subst ez eH
  exact ⟨upd F' T (.tup [.int (i : Nat), v]), .tup s2 hT, .tup (.of upd_same) (.cons (.int _) (.cons (rv.mono (s1.tr (Sm.updN (s2.none hT)))) .nil))⟩
theorem AI.enum {e : Expr} {fs : M (List D)} {p pos tpos : Pos} {elts : List Expr} {kk : Nat} (hg : Gl X "enumerate") (hm : X.mg "enumerate" = none) (ha : AA X W [e] fs) (hs : starEach [e] X.env = [(false, eval e X.env)] := by rfl) :
    AI X W (.Tuple elts kk tpos) (.Call (.Name "enumerate" p) [e] [] pos) (mItL enumD fs) := by
  obtain ⟨t, pa, qa⟩ := ha
  refine ⟨_, pi_enumA hg hm pa hs, fun G σ H F ρ R S hgd => qa G σ H F ρ _ S (hgd.bind fun ds ρ1 H1 F1 S1 s1 g1 vs r1 => ?_)⟩
  unfold enumD at g1
  split at g1
  · obtain ⟨v, rfl, rv⟩ := reps1 r1
    cases rv with
    | lst hx rx => exact ⟨_, _, rfl, .inl ⟨.of (S1.sub _ _ hx), g1 H1 F1 S1 Sm.refl _ (okE (.of hx) rx)⟩⟩
  · obtain ⟨v, rfl, rv⟩ := reps1 r1
    cases rv with
    | frz hx rx => exact ⟨_, _, rfl, .inl ⟨SqLm S1.sub hx, g1 H1 F1 S1 Sm.refl _ (okE hx rx)⟩⟩
  · obtain ⟨v, rfl, rv⟩ := reps1 r1
    cases rv with
    | tup hx rx => exact ⟨_, _, rfl, .inr ⟨SqTm S1.sub hx, g1 H1 F1 S1 Sm.refl _ (okET hx rx)⟩⟩
  · exact g1.elim
end
end Mr
namespace Mr
open PySem PySem.Spec PyProof.Rows L2
variable [Lam] [Pins]
section
variable {X : Cx} {W : WX} {e o : Expr} {es : List Expr} {fe : M D} {fs : M (List D)} {p pos apos : Pos} {k : Nat}
/-- *e, .. -/
def itemsD : D → FR (List D)
  | .tup xs => .ok xs
  | .lst xs => .ok xs
  | .frz xs => .ok xs
  | _ => .stuck
def mStar (fe : M D) (fs : M (List D)) : M (List D) := fun ρ => (fe ρ).bind fun d ρ => ((itemsD d).lift ρ).bind fun xs ρ => (fs ρ).bind fun ys ρ => .ok (xs ++ ys) ρ
theorem AA.star (he : AE X W e fe) (hr : AA X W es fs) (hs : starEach (.Starred e p :: es) X.env = (true, eval e X.env) :: starEach es X.env := by rfl) : AA X W (.Starred e p :: es) (mStar fe fs) := by
  obtain ⟨t, pe, qe⟩ := he
  obtain ⟨u, pa, qa⟩ := hr
  refine ⟨_, StX.pa_star pe pa hs, fun G σ H F ρ Q S hg => qe G σ H F ρ _ S (hg.bind fun d ρ1 H1 F1 S1 s1 g1 v r1 => ?_)⟩
  have go : ∀ (a : Addr) (xs : List V) (ds : List D), v = .ref a → (SqT X.K H1 a xs ∨ SqL X.K H1 a xs) → Reps X.K F1 xs ds → itemsD d = .ok ds → ∃ p xs, v = V.ref p ∧ (SqT X.K H1 p xs ∨ SqL X.K H1 p xs) ∧ u σ H1 fun ys H2 => Q (xs ++ ys) H2 := fun a xs ds ev hx rx ed => by
    rw [ed] at g1
    have g1 : Good X.K G W σ F1 ((fs ρ1).bind fun ys ρ => .ok (ds ++ ys) ρ) (PL X.K Q) := g1
    exact ⟨a, xs, ev, hx, qa G σ H1 F1 ρ1 _ S1 (g1.bind fun ys ρ2 H2 F2 S2 s2 g2 ws r2 => g2 H2 F2 S2 Sm.refl _ ((rx.mono s2).append r2))⟩
  cases r1 with
  | tup hx rx => exact go _ _ _ rfl (.inl (SqTm S1.sub hx)) rx rfl
  | lst hx rx => exact go _ _ _ rfl (.inr (.of (S1.sub _ _ hx))) rx rfl
  | frz hx rx => exact go _ _ _ rfl (.inr (SqLm S1.sub hx)) rx rfl
  | _ => exact g1.elim

/-- the class c has f as a property whose getter does m -/
structure PropG (X : Cx) (k : Nat) (c f : Str) (m : List D → FR D) : Prop where
  cl : Cls X.K (He.ga X.K c)
  ex : ∃ p g fd ps, PropOf X.K (He.ga X.K c) f p g ∧ FnG X.prog X.w X.K X.mg X.base k g fd ps (PSp X.K 1 m) ∧ Binds X.K fd ps []
def noxF : FR D → FR D
  | .ok d => .ok d
  | _ => .stuck
/-- what an instance's class does with it -/
def clsD (cs : List (Str × (List D → FR D))) : D → FR D
  | .obj c ns ds => match cs.lookup c with
    | some m => noxF (m [.obj c ns ds])
    | none => .stuck
  | _ => .stuck
theorem prop_get {pins : List (Addr × Obj)} {σ : L2.St} {H : Hp} {s : Shared} {Q : VK} {b : Bool} {E' : Value → Shared → Prop} {C pp g a dx : Addr} {fs : List (Str × V)} {f : Str} {fd : FuncData} {ps : List Str} {sp : Sp} (I : Inv X pins σ H s) (ea : H a = some (.ins C dx fs)) (c : Cls X.K C) (hp : PropOf X.K C f pp g)
    (F : FnG X.prog X.w X.K X.mg X.base k g fd ps sp) (hr : RoomG (k + 1) X.A) (hb : Binds X.K fd ps []) (h : sp [.ref a] H Q E0F) :
    wpAny (model X.prog X.w) X.A (getAttr (.ref a) f b) (EP X pins σ Q) E' s := by
  obtain ⟨mA, O, _⟩ := ins_get I.hok ea
  obtain ⟨od, J, _⟩ := O.look
  obtain ⟨rest, hrec⟩ := hp.rec_
  have I1 := I.tok (s.toks + 1)
  have hl : ([Value.ref a] ++ ([] : List Value)).length = ps.length := F.len _ _ _ _ h
  have hc : (PySem.W.clsIn X.K C).isSome = true := by
    obtain ⟨cd, hc, _⟩ := PySem.W.any_some c.hd
    rw [hc]; rfl
  have room : RoomG k X.A.in1 := ⟨hr.r.in1, hr.g⟩
  refine PySem.W.get_bind I.kIn J (PySem.W.plainGet_of (c.get f)).1 (PySem.W.findObj_data hc hp.at_ hp.get hp.tak) (PySem.W.plainGet_of (c.get f)).2 (wpAny_call (PySem.W.prop_get (s := { s with toks := s.toks + 1 }) I.kIn hrec ?_))
  refine codeAny_mono (F.run X.A.in1 X.stack { s with toks := s.toks + 1 } H ⟨[.ref a], []⟩ ([Value.ref a] ++ []) [V.ref a] Q E0F room I1.env0.in1 (hb _ [.ref a] I1.kIn hl) (.cons rfl .nil) h) fun r s2 q => ?_
  match r, q with
  | .error er, q => obtain ⟨_, _, _, _, _, _, _, _, _, _, _, _, z⟩ := q; exact z.elim
  | .ok (.ret u), q =>
    obtain ⟨v, H', I3, rv, q3⟩ := I1.after q
    show wpAny _ _ (handedOut u) _ _ _
    rw [PySem.W.handedOut_of (handed_of rv)]
    exact wpAny_pure ⟨v, H', I3, rv, q3⟩
  | .ok .next, q => exact False.elim q
  | .ok .brk, q => exact False.elim q
  | .ok .cont, q => exact False.elim q
def tPropG (X : Cx) (k : Nat) (f : Str) (ta : TE) : TE := fun σ H Q => ta σ H fun x H1 => ∃ c m a dx fs, PropG X k c f m ∧ x = .ref a ∧ H1 a = some (.ins (He.ga X.K c) dx fs) ∧ PSp X.K 1 m [.ref a] H1 Q E0F
theorem pe_propG {ta : TE} {f : Str} (he : PE X e ta) (hr : RoomG (k + 1) X.A) (hab : attributeBase e f X.env (eval e X.env) = eval e X.env) : PE X (.Attribute e f pos) (tPropG X k f ta) := by
  refine ⟨fun pins s σ H Q I h => attr_of hab (thn (he.run pins s σ H _ I h) fun u s1 ⟨x, H1, I1, rx, c, m, a, dx, fs, P, ex, ea, q⟩ => ?_)⟩
  subst ex
  obtain rfl : u = Value.ref a := rx
  obtain ⟨p, g, fd, ps, po, F, hb⟩ := P.ex
  exact prop_get I1 ea P.cl po F hr hb q
theorem noxF_ok {r : FR D} {K : PySem.W.Frag} {G : Ent} {σ : L2.St} {H F : Hp} {ρ : Ro} {Q : VK} (S : Stt K G σ H F ρ) (g : Good K G W σ F ((noxF r).lift ρ) (PD K Q)) : GoodF K H F r Q E0F := by
  cases r with
  | ok d => exact fun v H' F' A rv => g H' F' (S.aft A) A.f v rv
  | exc x => exact g.elim
  | stuck => exact g
theorem lookup_mem {α : Type} {c : Str} {m : α} : ∀ {cs : List (Str × α)}, cs.lookup c = some m → (c, m) ∈ cs
  | [], em => by cases em
  | (c', m') :: r, em => by
    rw [List.lookup_cons] at em
    split at em
    · rename_i hc
      cases em
      rw [beq_iff_eq.mp hc]; exact List.mem_cons_self ..
    · exact List.mem_cons_of_mem _ (lookup_mem em)
theorem AE.prop {f : Str} {cs : List (Str × (List D → FR D))} (he : AE X W e fe) (hp : ∀ q ∈ cs, PropG X k q.1 f q.2) (hr : RoomG (k + 1) X.A) (hab : attributeBase e f X.env (eval e X.env) = eval e X.env) : AE X W (.Attribute e f pos) (m1 (clsD cs) fe) := by
  obtain ⟨t, pe, qe⟩ := he
  refine ⟨_, pe_propG pe hr hab, fun G σ H F ρ Q S hg => qe G σ H F ρ _ S (hg.bind fun d ρ1 H1 F1 S1 s1 g1 v r1 => ?_)⟩
  cases r1 with
  | obj h1 h2 h3 h4 =>
    rename_i c ns vs fs' ds
    unfold clsD at g1
    cases em : cs.lookup c with
    | none => simp only [em] at g1; exact g1.elim
    | some m =>
      simp only [em] at g1
      have hm := lookup_mem em
      exact ⟨c, m, _, _, _, hp _ hm, rfl, S1.sub _ _ h1, rfl, F1, [.obj c ns ds], S1.pre, .cons (.obj h1 h2 h3 h4) .nil, noxF_ok S1 g1⟩
  | _ => exact g1.elim
/-- the class c has a method f that does m -/
structure MethG (X : Cx) (k n : Nat) (c f : Str) (m : List D → FR D) : Prop where
  cl : Cls X.K (He.ga X.K c)
  ex : ∃ g fd ps, Meth X.K (He.ga X.K c) f g ∧ FnG X.prog X.w X.K X.mg X.base k g fd ps (PSp X.K n m) ∧ Binds X.K fd ps []
def methOf (cs : List (Str × (List D → FR D))) (f : Str) : D → Option (List D → FR D)
  | .obj c ns _ => if f ∈ ns then none else cs.lookup c
  | _ => none
def mMeth (cs : List (Str × (List D → FR D))) (f : Str) (n : Nat) (fe : M D) (fs : M (List D)) : M D := fun ρ => (fe ρ).bind fun d ρ => match methOf cs f d with
  | some m => (fs ρ).bind fun ds ρ => (if ds.length + 1 = n then m (d :: ds) else .stuck).lift ρ
  | none => .stuck
theorem methOf_obj {cs : List (Str × (List D → FR D))} {f : Str} {d : D} {m : List D → FR D} (h : methOf cs f d = some m) : ∃ c ns ds, d = .obj c ns ds ∧ f ∉ ns ∧ (c, m) ∈ cs := by
  unfold methOf at h
  split at h
  · split at h
    · cases h
    · rename_i hn; exact ⟨_, _, _, rfl, hn, lookup_mem h⟩
  · cases h
theorem zip_none {f : Str} : ∀ {ns : List Str} {vs : List V}, f ∉ ns → (ns.zip vs).lookup f = none
  | [], _, _ => rfl
  | _ :: _, [], _ => rfl
  | n :: ns, v :: vs, h => by
    rw [List.zip_cons_cons, List.lookup_cons]
    have nb : (f == n) = false := by
      have : f ≠ n := fun z => h (by rw [z]; exact List.mem_cons_self ..)
      simp [this]
    rw [nb]
    exact zip_none fun z => h (List.mem_cons_of_mem _ z)
def tMethG (X : Cx) (W : WX) (k n : Nat) (f : Str) (ta : TE) (t : TA) : TE := fun σ H Q => ta σ H fun x H1 => ∃ a c dx fs, x = .ref a ∧ H1 a = some (.ins (He.ga X.K c) dx fs) ∧ fs.lookup f = none ∧ (∃ m, MethG X k n c f m) ∧
  t σ H1 fun vs H2 => ∃ m, MethG X k n c f m ∧ PSp X.K n m (x :: vs) H2 Q (WE W σ)
theorem pe_methG {ta : TE} {t : TA} {m : Str} {n : Nat} {pl : Sem Bool} (he : PE X o ta) (hr : RoomG k X.A) (tk : Takes X W) (ha : PA X (e :: es) t)
    (hst : starEach (e :: es) X.env = (false, eval e X.env) :: starEach es X.env := by rfl) (hpl : (backTo pos (starEach es X.env)).any (·.1) = false := by rfl)
    (ht : eval (.Call (.Attribute o m apos) (e :: es) [] pos) X.env = (do
      let ov ← eval o X.env
      standAt apos.atName
      let (f, first) ← holding [ov] (getMethod ov m pl)
      callWith pos f first (backTo pos (starEach (e :: es) X.env)) (backToKw pos (keywordEach [] X.env))) := by rfl) :
    PE X (.Call (.Attribute o m apos) (e :: es) [] pos) (tMethG X W k n m ta t) := by
  refine ⟨fun pins s σ H Q I h => PySem.W.methodCall_KW (pl := pl) (thn (he.run pins s σ H _ I h) fun u s1 ⟨x, H1, I1, rx, a, c, dx, fs, ex, ea, l, ⟨m0, G0⟩, q⟩ => ?_) ht⟩
  subst ex
  obtain rfl : u = Value.ref a := rx
  obtain ⟨g, fd, ps, hm, F0, hb0⟩ := G0.ex
  refine getmeth_ok I1 ea G0.cl hm l (PySem.W.callWith_K (first := [.ref a]) (h₀ := X.base) I.ok.mod.kin hm.kp (thn (ha.run pos pins s1 σ H1 _ I1 q) fun us s2 ⟨vs, H2, I2, r, m1, G1, q2⟩ => ⟨I2.kIn, ?_⟩) hst hpl)
  obtain ⟨g1, fd1, ps1, hm1, F1, hb1⟩ := G1.ex
  have eg : g1 = g := by
    have h1 := hm1.at_
    rw [hm.at_] at h1
    cases h1; rfl
  subst eg
  have q3 : PSp X.K n m1 ((.ref a :: vs) ++ []) H2 Q (WE W σ) := by rw [List.append_nil]; exact q2
  exact run_fnW (us := .ref a :: us) (vs := .ref a :: vs) F1 hr hb1 .nil tk I2 (.cons rfl r) q3
theorem AE.meth {m : Str} {n : Nat} {cs : List (Str × (List D → FR D))} {pl : Sem Bool} (he : AE X W o fe) (hp : ∀ q ∈ cs, MethG X k n q.1 m q.2) (hr : RoomG k X.A) (tk : Takes X W) (ha : AA X W (e :: es) fs)
    (hst : starEach (e :: es) X.env = (false, eval e X.env) :: starEach es X.env := by rfl) (hpl : (backTo pos (starEach es X.env)).any (·.1) = false := by rfl)
    (ht : eval (.Call (.Attribute o m apos) (e :: es) [] pos) X.env = (do
      let ov ← eval o X.env
      standAt apos.atName
      let (f, first) ← holding [ov] (getMethod ov m pl)
      callWith pos f first (backTo pos (starEach (e :: es) X.env)) (backToKw pos (keywordEach [] X.env))) := by rfl) :
    AE X W (.Call (.Attribute o m apos) (e :: es) [] pos) (mMeth cs m n fe fs) := by
  obtain ⟨t, pe, qe⟩ := he
  obtain ⟨u, pa, qa⟩ := ha
  refine ⟨_, pe_methG (W := W) (n := n) pe hr tk pa hst hpl ht, fun G σ H F ρ Q S hg => qe G σ H F ρ _ S (hg.bind fun d ρ1 H1 F1 S1 s1 g1 v r1 => ?_)⟩
  cases em : methOf cs m d with
  | none => simp only [em] at g1; exact g1.elim
  | some mm =>
    simp only [em] at g1
    obtain ⟨c, ns, ds, rfl, hn, hc⟩ := methOf_obj em
    cases r1 with
    | obj h1 h2 h3 h4 =>
      refine ⟨_, c, _, _, rfl, S1.sub _ _ h1, by rw [h2]; exact zip_none hn, ⟨mm, hp _ hc⟩, qa G σ H1 F1 ρ1 _ S1 (g1.bind fun es2 ρ3 H3 F3 S3 s3 g3 ws r3 => ?_)⟩
      have g3 : Good X.K G W σ F3 ((if es2.length + 1 = n then mm (.obj c ns ds :: es2) else FR.stuck).lift ρ3) (PD X.K Q) := g3
      split at g3
      · rename_i hl
        exact ⟨mm, hp _ hc, by rw [List.length_cons, r3.length]; exact hl, F3, .obj c ns ds :: es2, S3.pre, .cons (.obj (s3 _ _ h1) h2 h3 (h4.mono s3)) r3, aftGood S3 g3⟩
      · exact g3.elim
end
end Mr
namespace Mr
open PySem PySem.Spec PyProof.Rows L2
variable [Lam] [Pins]
/-- what the text says of the class U -/
structure IsiF (K : PySem.W.Frag) (U : Str) : Prop where
  cl : Cls K (He.ga K U)
  ha : PySem.W.findIn K (.ref (He.ga K U)) "__class__" = some (some (.builtin "object.__class__"))
  hn : PySem.W.specialIn K (.builtin "object.__class__") "__get__" = some (some (.builtin "getset_descriptor.__get__"))
  ht : PySem.W.takesIn K (.builtin "object.__class__") = some true
  hm : PySem.W.mroIn K (He.ga K U) (.type "object") = some true
  ty : ∀ t ∈ (["NoneType", "bool", "int", "str", "tuple", "list", "dict"] : List String), PySem.W.kitOne K (.type t) (.ref (He.ga K U)) = some false
def isiB (K : PySem.W.Frag) (U : Str) : Bool := He.eqO (PySem.W.findIn K (.ref (He.ga K U)) "__class__") (some (some (.builtin "object.__class__"))) &&
  (He.eqO (PySem.W.specialIn K (.builtin "object.__class__") "__get__") (some (some (.builtin "getset_descriptor.__get__"))) && (decide (PySem.W.takesIn K (.builtin "object.__class__") = some true) &&
  (decide (PySem.W.mroIn K (He.ga K U) (.type "object") = some true) && (["NoneType", "bool", "int", "str", "tuple", "list", "dict"] : List String).all fun t => decide (PySem.W.kitOne K (.type t) (.ref (He.ga K U)) = some false))))
theorem isiB_ok {K : PySem.W.Frag} {U : Str} (c : Cls K (He.ga K U)) (h : isiB K U = true) : IsiF K U := by
  obtain ⟨h1, h⟩ := He.ba h
  obtain ⟨h2, h⟩ := He.ba h
  obtain ⟨h3, h⟩ := He.ba h
  obtain ⟨h4, h5⟩ := He.ba h
  exact ⟨c, He.eqO_ok h1, He.eqO_ok h2, of_decide_eq_true h3, of_decide_eq_true h4, fun t ht => of_decide_eq_true (List.all_eq_true.mp h5 t ht)⟩
def isiOD (U : Str) : D → FR D
  | .obj c _ _ => if c = U then .ok (.bl true) else .stuck
  | .non => .ok (.bl false)
  | .bl _ => .ok (.bl false)
  | .int _ => .ok (.bl false)
  | .str _ => .ok (.bl false)
  | .tup _ => .ok (.bl false)
  | .lst _ => .ok (.bl false)
  | .dct _ _ => .ok (.bl false)
  | _ => .stuck
section
variable {X : Cx} {W : WX} {e : Expr} {fe : M D} {p p2 pos : Pos}
theorem AE.isiO {U : Str} (hU : IsiF X.K U) (hg : Gl X "isinstance") (hm : X.mg "isinstance" = none) (gU : Gl X U) (mU : X.mg U = some (.ref (He.ga X.K U))) (he : AE X W e fe) (hdb : (U == ("__debug__" : Str)) = false := by decide)
    (h1 : starEach [e, .Name U p2] X.env = (false, eval e X.env) :: starEach [.Name U p2] X.env := by rfl) (hpl : (backTo pos (starEach [.Name U p2] X.env)).any (·.1) = false := by rfl)
    (h2 : starEach [.Name U p2] X.env = (false, eval (.Name U p2) X.env) :: starEach [] X.env := by rfl) :
    AE X W (.Call (.Name "isinstance" p) [e, .Name U p2] [] pos) (m1 (isiOD U) fe) := by
  obtain ⟨t, pe, qe⟩ := he
  refine ⟨_, pe_callB call_isi hg hm (by decide +kernel) (pa_cons pe (pa_cons (pe_glob (v := .ref (He.ga X.K U)) gU mU rfl hdb) pa_nil h2) h1) (by decide) (by decide) h1 hpl, fun G σ H F ρ Q S hgd => qe G σ H F ρ _ S (hgd.bind fun d ρ1 H1 F1 S1 s1 g1 v r1 => ?_)⟩
  have fin : ∀ (T : Value) (b : Bool), TyX X.K H1 v T → PySem.W.kitOne X.K T (.ref (He.ga X.K U)) = some b → isiOD U d = .ok (.bl b) → rIsi X.K [v, V.ref (He.ga X.K U)] H1 Q := fun T b ty kit ed => by
    rw [ed] at g1
    exact ⟨v, .ref (He.ga X.K U), T, _, b, rfl, .own _, ty, kit, g1 H1 F1 S1 Sm.refl _ (.bl b)⟩
  have ft : ∀ t : String, t ∈ (["NoneType", "bool", "int", "str", "tuple", "list", "dict"] : List String) → TyX X.K H1 v (.type t) → isiOD U d = .ok (.bl false) → rIsi X.K [v, V.ref (He.ga X.K U)] H1 Q := fun t ht ty ed => fin _ _ ty (hU.ty t ht) ed
  cases r1 with
  | obj e1 e2 e3 e4 =>
    rename_i a dx c ns vs fs ds
    have g2 : Good X.K G W σ F1 ((if c = U then FR.ok (D.bl true) else FR.stuck).lift ρ1) (PD X.K Q) := g1
    split at g2
    · rename_i hc
      subst hc
      exact fin _ true (.base (.ins (S1.sub _ _ e1) hU.cl hU.ha hU.hn hU.ht hU.hm)) (by unfold PySem.W.kitOne; rw [if_pos (by simp)]) (if_pos rfl)
    · exact g2.elim
  | non => exact ft "NoneType" (by simp) (.base .non) rfl
  | bl b => exact ft "bool" (by simp) (.base (.bl b)) rfl
  | int i => exact ft "int" (by simp) (.base (.int i)) rfl
  | str x => exact ft "str" (by simp) (.base (.str x)) rfl
  | tup hx rx => exact ft "tuple" (by simp) ((tyx_of (.tup hx rx) rfl : TyX X.K F1 _ _) |> fun _ => tyx_of (Rep.mono S1.sub (.tup hx rx)) rfl) rfl
  | lst hx rx => exact ft "list" (by simp) (.base (.lst (S1.sub _ _ hx))) rfl
  | dct hx l rx => exact ft "dict" (by simp) (.base (.dK (S1.sub _ _ hx))) rfl
  | _ => exact g1.elim
end
def reprD : List D → FR D
  | [d] => if okD 12 d = true ∧ (py d).showable = true ∧ (py d).shown.length ≤ sizeLine then .ok (.str (py d).shown) else .stuck
  | _ => .stuck
mutual
theorem okD_noDict : ∀ (n : Nat) (d : D), okD n d = true → (py d).hasDict = false
  | _, .non, _ => rfl
  | _, .bl _, _ => rfl
  | _, .int _, _ => rfl
  | _, .str _, _ => rfl
  | 0, .tup xs, h => by simp [okD] at h
  | n + 1, .tup xs, h => by simpa [py, PyData.hasDict] using okDs_noDict n xs (by simpa [okD] using h)
  | 0, .lst xs, h => by simp [okD] at h
  | n + 1, .lst xs, h => by simpa [py, PyData.hasDict] using okDs_noDict n xs (by simpa [okD] using h)
  | 0, .frz xs, h => by simp [okD] at h
  | n + 1, .frz xs, h => by simpa [py, PyData.hasDict] using okDs_noDict n xs (by simpa [okD] using h)
  | _, .obj _ _ _, h => by simp [okD] at h
  | _, .dct _ _, h => by simp [okD] at h
  | _, .opq _, h => by simp [okD] at h
  | _, .any, h => by simp [okD] at h
theorem okDs_noDict : ∀ (n : Nat) (ds : List D), okDs n ds = true → PyData.hasDictAll (pys ds) = false
  | _, [], _ => rfl
  | n, x :: xs, h => by
    rw [okDs, Bool.and_eq_true] at h
    simp [pys, PyData.hasDictAll, okD_noDict n x h.1, okDs_noDict n xs h.2]
end
def rRepr (K : PySem.W.Frag) : List V → Hp → VK → Prop := fun vs H Q => ∃ v d, vs = [v] ∧ Dp K H v d ∧ d.hasDict = false ∧ d.showable = true ∧ d.depth ≤ 12 ∧ d.shown.length ≤ sizeLine ∧ Q (.str d.shown) H
theorem call_repr {X : Cx} (hg : X.A.guards = some []) (hu : X.A.units + 64 < cLine) : CallR X (.builtin "repr") (rRepr X.K) := by
  intro pins s σ H xs us Q I r h
  obtain ⟨v, d, rfl, hd, nd, sd, dd, ld, q⟩ := h
  obtain ⟨u, rfl, ru⟩ : ∃ u, us = [u] ∧ RelV v u := by
    cases r with
    | cons r1 rr => cases rr; exact ⟨_, rfl, r1⟩
  obtain ⟨as, rd⟩ := Dp.reads I d v u hd ru
  have fin : ∀ (h' : Heap) (t : Tok) (tk : Nat), (∀ b o, s.heap.get? b = some o → h'.get? b = some o) → EP X pins σ Q (.str d.shown t) { s with heap := h', toks := tk } := fun h' t tk k =>
    ⟨.str d.shown, H, I.kept (t' := tk) k, ⟨t, rfl⟩, q⟩
  cases u with
  | ref a => exact repr_of_reads' rd sd (fun z => by rw [nd] at z; cases z) hg (by omega) (fun b o e => e) (fun h' t tk k => fin h' t tk k) ld
  | none =>
    cases rd
    exact PySem.P.repr_of_none (fin s.heap _ _ fun _ _ e => e)
  | bool b =>
    cases rd
    refine PySem.P.repr_of_bool ?_
    have := fin s.heap s.toks (s.toks + 1) fun _ _ e => e
    rwa [PyData.shown_bool] at this
  | int i t =>
    cases rd
    refine PySem.P.repr_of_int (by simpa [PyData.showable] using sd) ?_
    have := fin s.heap s.toks (s.toks + 1) fun _ _ e => e
    rwa [PyData.shown_int] at this
  | str x t =>
    cases rd
    rw [PyData.shown_str] at ld
    refine PySem.P.repr_of_str ?_ ld
    have := fin s.heap s.toks (s.toks + 1) fun _ _ e => e
    rwa [PyData.shown_str] at this
  | _ => cases rd
section
variable {X : Cx} {W : WX}
theorem CA.repr (hg : X.A.guards = some []) (hu : X.A.units + 64 < cLine) : CA X W (.builtin "repr") reprD := by
  refine ⟨_, call_repr hg hu, fun G σ H F ρ vs ds Q S r hgd => ?_⟩
  unfold reprD at hgd
  split at hgd
  · rename_i d
    obtain ⟨v, rfl, rv⟩ := reps1 r
    split at hgd
    · rename_i hz
      obtain ⟨h1, h2, h3⟩ := hz
      exact ⟨v, py d, rfl, rep_dp 12 (rv.mono S.sub) h1, okD_noDict 12 d h1, h2, (okD_py 12 d h1).2, h3, hgd H F S Sm.refl _ (.str _)⟩
    · exact hgd.elim
  · exact hgd.elim
end
end Mr
namespace Mr
open PySem PySem.Spec PyProof.Rows L2
variable [Lam] [Pins]
theorem put_new {kvs : List (Key × V)} {k : Key} {v : V} (h : k ∉ kvs.map (·.1)) : putK kvs k v = kvs ++ [(k, v)] := by
  unfold putK
  rw [if_neg]
  intro z
  obtain ⟨q, hq, e⟩ := List.any_eq_true.mp z
  exact h (List.mem_map.mpr ⟨q, hq, of_decide_eq_true e⟩)
theorem merge_nodup : ∀ (more kvs : List (Key × V)), ((kvs ++ more).map (·.1)).Nodup → mergeK kvs more = kvs ++ more
  | [], kvs, _ => by simp [mergeK]
  | (k, v) :: r, kvs, h => by
    have hk : k ∉ kvs.map (·.1) := fun z => by
      rw [List.map_append, List.map_cons] at h
      exact (List.nodup_append.mp h).2.2 k z k (List.mem_cons_self ..) rfl
    show mergeK (putK kvs k v) r = _
    rw [put_new hk, merge_nodup r (kvs ++ [(k, v)]) (by simpa using h)]
    simp
section
variable {X : Cx} {W : WX} {pos : Pos}
/-- a display's pairs: its keys are written texts -/
def AP (X : Cx) (W : WX) (pos : Pos) (keys : List (Option Expr)) (es : List Expr) (ks : List Key) (f : M (List D)) : Prop := ∃ trs, PPs X pos keys es trs ∧ keys.length = ks.length ∧ es.length = ks.length ∧ keys.all (·.isSome) = true ∧
  ∀ G σ H F ρ Q, Stt X.K G σ H F ρ → Good X.K G W σ F (f ρ) (fun ds _ H' F' => ∀ vs, Reps X.K F' vs ds → Q ((ks.zip vs).map fun kv => (kV kv.1, kv.2)) H' ∧ vs.length = ks.length) → tPairs trs σ H Q
theorem AP.nil : AP X W pos [] [] [] mNil := ⟨_, pps_nil, rfl, rfl, rfl, fun G σ H F ρ Q S hg => (hg H F S Sm.refl [] .nil).1⟩
theorem AP.cons {x : Str} {j : Nat} {kp : Pos} {e : Expr} {es : List Expr} {keys : List (Option Expr)} {ks : List Key} {fe : M D} {fs : M (List D)} (he : AE X W e fe) (hr : AP X W pos keys es ks fs) :
    AP X W pos (some (.Constant (.str x) j kp) :: keys) (e :: es) (.inr x :: ks) (mCons fe fs) := by
  obtain ⟨t, pe, qe⟩ := he
  obtain ⟨trs, pp, l1, l2, l3, qp⟩ := hr
  refine ⟨_, pps_cons pe_str pe pp, by simp [l1], by simp [l2], by simpa using l3, fun G σ H F ρ Q S hg => ?_⟩
  refine qe G σ H F ρ _ S (hg.bind fun d ρ1 H1 F1 S1 s1 g1 v r1 => ?_)
  refine qp G σ H1 F1 ρ1 _ S1 (g1.bind fun ds ρ2 H2 F2 S2 s2 g2 vs r2 => ?_)
  obtain ⟨q, l⟩ := g2 H2 F2 S2 Sm.refl (v :: vs) (.cons (r1.mono s2) r2)
  exact ⟨q, by simpa using l⟩
def mDict (ks : List Key) (fs : M (List D)) : M D := fun ρ => (fs ρ).bind fun ds ρ => if ds.length = ks.length then .ok (.dct ks ds) ρ else .stuck
theorem AE.dict {keys : List (Option Expr)} {es : List Expr} {ks : List Key} {fs : M (List D)} (hp : AP X W pos keys es ks fs) (hn : ks.Nodup) (h0 : keys ≠ []) (h15 : keys.length ≤ 15) : AE X W (.Dict keys es pos) (mDict ks fs) := by
  obtain ⟨trs, pp, l1, l2, l3, qp⟩ := hp
  refine ⟨_, pe_disp pp l3 (l1.trans l2.symm) h0 h15, fun G σ H F ρ Q S hg p np => ?_⟩
  have S0 : Stt X.K ⟨G.H0, G.F0, G.io, (p, .dK []) :: G.xt⟩ σ (upd H p (.dK [])) F ρ := S.xtNew np
  refine qp _ σ _ F ρ _ S0 ?_
  have hg : Good X.K G W σ F ((fs ρ).bind fun ds ρ => if ds.length = ks.length then .ok (.dct ks ds) ρ else .stuck) (PD X.K Q) := hg
  cases ef : fs ρ with
  | stuck => rw [ef] at hg; exact hg.elim
  | exc x ρ1 =>
    rw [ef] at hg
    exact fun d H' F' S1 s1 x1 => hg d H' (upd F' p (.dK [])) (S1.xtFreeze).1 (s1.tr S1.xtFreeze.2) (by
      rcases x1 with x1 | ⟨dd, vs, e1, e2, e3⟩
      · exact .inl x1
      · exact .inr ⟨dd, vs, e1, S1.xtFreeze.2 _ _ e2, e3.mono S1.xtFreeze.2⟩)
  | ok ds ρ1 =>
    rw [ef] at hg
    have hg : Good X.K G W σ F (if ds.length = ks.length then R.ok (D.dct ks ds) ρ1 else .stuck) (PD X.K Q) := hg
    split at hg
    · rename_i hl
      intro H' F' S1 s1 vs rv
      have lv : vs.length = ks.length := rv.length.trans hl
      refine ⟨⟨(S1.xt (p, .dK []) (List.mem_cons_self ..)).1, ks.zip vs, rfl, by rw [List.length_zip]; omega, ?_⟩, lv⟩
      have em : mergeK [] (ks.zip vs) = ks.zip vs := by
        rw [merge_nodup _ [] (by rw [List.nil_append, List.map_fst_zip (by omega)]; exact hn)]; rfl
      rw [em]
      have S2 := S1.xtUpd (o' := .dK (ks.zip vs))
      have S3 := S2.xtFreeze
      exact hg _ _ S3.1 (s1.tr S3.2) _ (.dct upd_same lv.symm (rv.mono S3.2))
    · exact hg.elim
def keyD : D → Option Key
  | .int i => some (.inl i)
  | .str x => some (.inr x)
  | _ => none
def findK : List Key → List D → Key → Option D
  | k :: ks, d :: ds, x => if k = x then some d else findK ks ds x
  | _, _, _ => none
def dgetD (a b : D) : FR D := match a with
  | .dct ks ds => match keyD b with
    | some k => match findK ks ds k with
      | some d => .ok d
      | none => .stuck
    | none => .stuck
  | _ => .stuck
theorem findK_rep {K : PySem.W.Frag} {H : Hp} {k : Key} {d : D} : ∀ {ks : List Key} {vs : List V} {ds : List D}, Reps K H vs ds → findK ks ds k = some d → ∃ v, valV (ks.zip vs) k = some v ∧ Rep K H v d
  | [], _, _, _, h => by cases h
  | _ :: _, _, _, .nil, h => by cases h
  | q :: ks, _, _, .cons (v := v) (vs := vs) r t, h => by
    unfold findK at h
    split at h
    · rename_i e
      cases h
      exact ⟨v, valV_pos (r := ks.zip vs) (p := (q, v)) e, r⟩
    · rename_i e
      obtain ⟨u, e1, e2⟩ := findK_rep t h
      exact ⟨u, by rw [List.zip_cons_cons, valV_neg e]; exact e1, e2⟩
theorem keyD_v {K : PySem.W.Frag} {H : Hp} {v : V} {d : D} {k : Key} (r : Rep K H v d) (h : keyD d = some k) : v = kV k := by
  cases r <;> cases h <;> rfl
theorem AE.dget {a b : Expr} {fa fb : M D} (hu : X.A.units + 64 < cLine) (ha : AE X W a fa) (hb : AE X W b fb) (hs : NoSl b) : AE X W (.Subscript a b pos) (m2 dgetD fa fb) := by
  obtain ⟨t, p, q⟩ := ha
  obtain ⟨u, p', q'⟩ := hb
  refine ⟨_, pe_dget (by omega) p p' hs, fun G σ H F ρ Q S hg => q G σ H F ρ _ S (hg.bind fun x ρ1 H1 F1 S1 s1 g1 v r1 => q' G σ H1 F1 ρ1 _ S1 (g1.bind fun y ρ2 H2 F2 S2 s2 g2 w r2 => ?_))⟩
  have r1 := r1.mono s2
  unfold dgetD at g2
  cases r1 with
  | dct h1 h2 h3 =>
      rename_i a0 ks vs0 ds
      cases ek : keyD y with
      | none => simp only [ek] at g2; exact g2.elim
      | some k =>
        simp only [ek] at g2
        cases ef : findK ks ds k with
        | none => simp only [ef] at g2; exact g2.elim
        | some d =>
          simp only [ef] at g2
          obtain ⟨z, e1, e2⟩ := findK_rep h3 ef
          have ev := keyD_v r2 ek
          subst ev
          exact ⟨_, z, rfl, e1 ▸ DGet.k (S2.sub _ _ h1), g2 H2 F2 S2 Sm.refl _ e2⟩
  | _ => exact g2.elim
end
end Mr
namespace Mr
open PySem PySem.Spec PyProof.Rows L2
variable [Lam] [Pins]
/-- a pair put into a dict -/
def hasK (k : Key) (ks : List Key) : Bool := ks.any fun q => decide (q = k)
def setKs (k : Key) (ks : List Key) : List Key := if hasK k ks = true then ks else ks ++ [k]
def setVs {α : Type} (k : Key) (y : α) (ks : List Key) (ds : List α) : List α := if hasK k ks = true then ks.zipWith (fun q d => if q = k then y else d) ds else ds ++ [y]
theorem any_mem {k : Key} : ∀ {ks : List Key} {vs : List V}, ks.length = vs.length → ((ks.zip vs).any fun kv => decide (kv.1 = k)) = hasK k ks
  | [], _, _ => rfl
  | _ :: _, [], l => by cases l
  | q :: ks, v :: vs, l => by
    have ih := any_mem (k := k) (ks := ks) (vs := vs) (by simpa using l)
    unfold hasK at *
    rw [List.zip_cons_cons, List.any_cons, List.any_cons, ih]
theorem zip_map_if {k : Key} {v : V} : ∀ {ks : List Key} {vs : List V}, ((ks.zip vs).map fun kv => if kv.1 = k then (kv.1, v) else kv) = ks.zip (ks.zipWith (fun q d => if q = k then v else d) vs)
  | [], _ => rfl
  | _ :: _, [] => rfl
  | q :: ks, u :: vs => by
    rw [List.zip_cons_cons, List.map_cons, zip_map_if, List.zipWith_cons_cons, List.zip_cons_cons]
    congr 1
    by_cases h : q = k
    · rw [if_pos h, if_pos h]
    · rw [if_neg h, if_neg h]
theorem put_zip {k : Key} {v : V} {ks : List Key} {vs : List V} (l : ks.length = vs.length) : putK (ks.zip vs) k v = (setKs k ks).zip (setVs k v ks vs) := by
  unfold putK setKs setVs
  rw [any_mem l]
  by_cases h : hasK k ks = true
  · rw [if_pos h, if_pos h, if_pos h, zip_map_if]
  · rw [if_neg h, if_neg h, if_neg h, List.zip_append l]
    rfl
theorem set_len {α : Type} {k : Key} {v : α} {ks : List Key} {vs : List α} (l : ks.length = vs.length) : (setKs k ks).length = (setVs k v ks vs).length := by
  unfold setKs setVs
  split
  · rw [List.length_zipWith]; omega
  · simp [l]
theorem reps_zipW {K : PySem.W.Frag} {H : Hp} {k : Key} {v : V} {d : D} (r : Rep K H v d) : ∀ {ks : List Key} {vs : List V} {ds : List D}, Reps K H vs ds → Reps K H (ks.zipWith (fun q d => if q = k then v else d) vs) (ks.zipWith (fun q x => if q = k then d else x) ds)
  | [], _, _, _ => .nil
  | _ :: _, _, _, .nil => .nil
  | q :: ks, _, _, .cons a t => by
    rw [List.zipWith_cons_cons, List.zipWith_cons_cons]
    refine .cons ?_ (reps_zipW r t)
    by_cases h : q = k
    · rw [if_pos h, if_pos h]; exact r
    · rw [if_neg h, if_neg h]; exact a
theorem set_reps {K : PySem.W.Frag} {H : Hp} {k : Key} {v : V} {d : D} {ks : List Key} {vs : List V} {ds : List D} (r : Rep K H v d) (t : Reps K H vs ds) : Reps K H (setVs k v ks vs) (setVs k d ks ds) := by
  unfold setVs
  split
  · exact reps_zipW r t
  · exact t.append (.cons r .nil)
def dcM (vs : List Nat) (t : Tg) (c : M Bool) (kx vx : M D) : List D → List Key → List D → Ro → R (List Key × List D)
  | [], ks, acc, ρ => .ok (ks, acc) ρ
  | d :: ds, ks, acc, ρ => if plainR ρ vs = true then (putT t d (wipeR ρ vs)).bind fun _ ρ1 => (c ρ1).bind fun b ρ2 =>
      if b = true then (kx ρ2).bind fun y ρ3 => (vx ρ3).bind fun z ρ4 => match keyD y with
        | some k => if ks.length < sizeLine ∧ freeR ρ4 vs = true then dcM vs t c kx vx ds (setKs k ks) (setVs k z ks acc) (backR ρ ρ4 vs) else .stuck
        | none => .stuck
      else if freeR ρ2 vs = true then dcM vs t c kx vx ds ks acc (backR ρ ρ2 vs) else .stuck
    else .stuck
def mDc (it : M (List D)) (vs : List Nat) (t : Tg) (c : M Bool) (kx vx : M D) : M D := fun ρ => (it ρ).bind fun ds ρ => ((dcM vs t c kx vx ds [] [] ρ).nox).bind fun p ρ => .ok (.dct p.1 p.2) ρ
section
variable {X : Cx} {W : WX} {ke ve tg iter c : Expr} {ifs : List Expr} {scope : Scope} {own : List (Str × Nat)} {pos : Pos} {it : M (List D)} {t : Tg} {tc : M Bool} {kx vx : M D}
theorem AE.dc (hc : X.calm = true) (hN : X.N.Nodup) (hi : AI X W tg iter it) (ok : BlkOk X.N X.env.scope scope own) (hsl : ∀ i ∈ slT t, i ∈ own.map (·.2))
    (hg : ∀ s H C cl fp, AG (blkX X scope s H C cl fp) tg t) (ht : ∀ s H C cl fp, ATs (blkX X scope s H C cl fp) W0 ifs tc) (hk : ∀ s H C cl fp, AE (blkX X scope s H C cl fp) W0 ke kx) (he : ∀ s H C cl fp, AE (blkX X scope s H C cl fp) W0 ve vx)
    (hs : ∀ x, foldedSetIterable iter X.env x = pure x := by intro _; rfl) : AE X W (.DictComp ke ve [⟨tg, iter, ifs, 0⟩] scope pos) (mDc it (own.map (·.2)) t tc kx vx) := by
  obtain ⟨wi, pi, qi⟩ := hi
  let g : TG := fun v σ H Q => ∀ s H0 C cl fp, (Classical.choose (hg s H0 C cl fp)) v σ H Q
  let tt : TT := fun σ H Q => ∀ s H0 C cl fp, (Classical.choose (ht s H0 C cl fp)) σ H Q
  let tk : TE := fun σ H Q => ∀ s H0 C cl fp, (Classical.choose (hk s H0 C cl fp)) σ H Q
  let te : TE := fun σ H Q => ∀ s H0 C cl fp, (Classical.choose (he s H0 C cl fp)) σ H Q
  have pg : ∀ s H C cl fp, PG (blkX X scope s H C cl fp) tg g := fun s H C cl fp => ⟨fun pins s1 σ H1 v u Q I r h => (Classical.choose_spec (hg s H C cl fp)).1.run pins s1 σ H1 v u Q I r (h s H C cl fp)⟩
  have pt : ∀ s H C cl fp, PTs (blkX X scope s H C cl fp) ifs tt := fun s H C cl fp => ⟨fun pins s1 σ H1 Q I h => (Classical.choose_spec (ht s H C cl fp)).1.run pins s1 σ H1 Q I (h s H C cl fp)⟩
  have pk : ∀ s H C cl fp, PE (blkX X scope s H C cl fp) ke tk := fun s H C cl fp => ⟨fun pins s1 σ H1 Q I h => (Classical.choose_spec (hk s H C cl fp)).1.run pins s1 σ H1 Q I (h s H C cl fp)⟩
  have pe : ∀ s H C cl fp, PE (blkX X scope s H C cl fp) ve te := fun s H C cl fp => ⟨fun pins s1 σ H1 Q I h => (Classical.choose_spec (he s H C cl fp)).1.run pins s1 σ H1 Q I (h s H C cl fp)⟩
  have qg : ∀ G σ H F ρ v d Q, Stt X.K G σ H F ρ → Rep X.K F v d → GoodT X.K G F σ (slT t) (putT t d ρ) Q → g v σ H Q := fun G σ H F ρ v d Q S r h s H0 C cl fp => (Classical.choose_spec (hg s H0 C cl fp)).2 G σ H F ρ v d Q S r h
  have qt : ∀ G σ H F ρ Q, Stt X.K G σ H F ρ → Good X.K G W0 σ F (tc ρ) (PB Q) → tt σ H Q := fun G σ H F ρ Q S h s H0 C cl fp => (Classical.choose_spec (ht s H0 C cl fp)).2 G σ H F ρ Q S h
  have qk : ∀ G σ H F ρ Q, Stt X.K G σ H F ρ → Good X.K G W0 σ F (kx ρ) (PD X.K Q) → tk σ H Q := fun G σ H F ρ Q S h s H0 C cl fp => (Classical.choose_spec (hk s H0 C cl fp)).2 G σ H F ρ Q S h
  have qe : ∀ G σ H F ρ Q, Stt X.K G σ H F ρ → Good X.K G W0 σ F (vx ρ) (PD X.K Q) → te σ H Q := fun G σ H F ρ Q S h s H0 C cl fp => (Classical.choose_spec (he s H0 C cl fp)).2 G σ H F ρ Q S h
  refine ⟨_, pe_dc hc hN pi ok pg pt pk pe hs, fun G σ H F ρ Q S hgd => qi G σ H F ρ _ S (hgd.bind fun ds ρ1 H1 F1 S1 s1 g1 J hJ Da hDa => ?_)⟩
  generalize hvs : own.map (·.2) = vs at hsl g1 ⊢
  let GX : List (Key × V) → Ent := fun ws => ⟨G.H0, G.F0, G.io, (Da, .dK ws) :: G.xt⟩
  let Fin : Hp → R (List Key × List D) → Prop := fun F' r => Good X.K G W σ F' (r.nox.bind fun p ρ => .ok (.dct p.1 p.2) ρ) (PD X.K Q)
  have mono : ∀ {F' F2 : Hp} {r : R (List Key × List D)}, Sm F' F2 → Fin F' r → Fin F2 r := fun s h => Good.mono s h
  refine ⟨fun i m H' => i + m = ds.length ∧ ∃ F' ρ' ks ws acc, Stt X.K (GX (ks.zip ws)) σ H' F' ρ' ∧ Sm F1 F' ∧ ks.length = ws.length ∧ Reps X.K F' ws acc ∧ Fin F' (dcM vs t tc kx vx (ds.drop i) ks acc ρ'),
    ⟨ds.length, by omega, F1, ρ1, [], [], [], S1.xtNew hDa, Sm.refl, rfl, .nil, by rw [List.drop_zero]; exact g1⟩, ?_⟩
  rintro i m H' ⟨hm, F', ρ', ks, ws, acc, S', s', lk, ra, hgf⟩
  obtain ⟨stop, go⟩ := hJ i H' F' s' S'.sub
  by_cases hlt : i < ds.length
  · rw [List.drop_eq_getElem_cons hlt] at hgf
    obtain ⟨hgo, hy⟩ := go ds[i] (List.getElem?_eq_getElem hlt)
    refine .inr ⟨hgo, fun H2 => (i + 1) + (m - 1) = ds.length ∧ ∃ F' ρ' ks ws acc, Stt X.K (GX (ks.zip ws)) σ H2 F' ρ' ∧ Sm F1 F' ∧ ks.length = ws.length ∧ Reps X.K F' ws acc ∧ Fin F' (dcM vs t tc kx vx (ds.drop (i + 1)) ks acc ρ'),
      fun H2 hn => ⟨m - 1, by omega, hn⟩, fun x H2 hyl => ?_⟩
    obtain ⟨F2, A2, r2⟩ := hy x H2 hyl
    have S2 := S'.aft A2
    have ra2 := ra.mono A2.f
    unfold dcM at hgf
    by_cases hpl : plainR ρ' vs = true
    · rw [if_pos hpl] at hgf
      have hpl' : ∀ v ∈ vs, (ρ'.getD v .un).isFar = false := fun v hv => by
        have := List.all_eq_true.mp hpl v hv
        simpa using this
      have S3 := S2.wiped vs fun v hv => not_own_io (hpl' v hv)
      refine qg (GX (ks.zip ws)) (wipe σ vs) H2 F2 (wipeR ρ' vs) x _ _ S3 r2 ?_
      cases e : putT t ds[i] (wipeR ρ' vs) with
      | ok u ρ3 =>
        rw [e] at hgf
        refine fun σ3 H3 F3 S4 s4 o4 => ?_
        have l3 : σ3.length = (wipe σ vs).length := by
          rw [← S4.len, len_putT _ _ _ _ _ e, ← S3.len]
        have w3 : wipe σ3 vs = wipe σ vs := by
          refine wipe_same vs (by rw [l3, wipe_length]) fun j hj => ?_
          rw [o4 j fun hm => hj (hsl j hm), get_wipe σ vs j hj]
        have o3 : ∀ j, j ∉ vs → σ3[j]? = σ[j]? := fun j hj => by rw [o4 j fun hm => hj (hsl j hm), get_wipe σ vs j hj]
        refine ⟨w3, ?_⟩
        have ra3 := ra2.mono s4
        have back : ∀ {ws' : List (Key × V)} {H6 F6 : Hp} {ρ6 : Ro}, Stt X.K (GX ws') σ3 H6 F6 ρ6 → Sm F3 F6 → freeR ρ6 vs = true → Stt X.K (GX ws') σ H6 F6 (backR ρ' ρ6 vs) := fun {ws' H6 F6 ρ6} S6 s6 hf => by
          have hf' : ∀ v ∈ vs, (ρ6.getD v .un).isIo = false := fun v hv => by
            have := List.all_eq_true.mp hf v hv
            simpa using this
          obtain ⟨τ, Sτ, t1, t2, tl⟩ := S6.backed (σ := σ) (ρ0 := ρ') (by rw [l3, wipe_length]) vs vs hf' fun v hv => ⟨hpl' v hv, by
            have q := S'.at_ v
            have no := hpl' v hv
            cases ev : ρ'.getD v .un with
            | un => trivial
            | val d => rw [ev] at q; obtain ⟨w, e1, r⟩ := q; exact ⟨w, e1, r.mono (A2.f.tr (s4.tr s6))⟩
            | own p xs => rw [ev] at no; cases no
            | ins p C ns dd => rw [ev] at no; cases no
            | dic p ks dd => rw [ev] at no; cases no
            | pin => rw [ev] at no; cases no⟩
          have eτ : τ = σ := by
            apply List.ext_getElem?
            intro j
            by_cases hj : j ∈ vs
            · exact t2 j hj
            · rw [t1 j hj, o3 j hj]
          rw [eτ] at Sτ
          exact Sτ
        have hgf : Fin F3 ((tc ρ3).bind fun b ρ2 => if b = true then (kx ρ2).bind fun y ρ3 => (vx ρ3).bind fun z ρ4 => match keyD y with
            | some k => if ks.length < sizeLine ∧ freeR ρ4 vs = true then dcM vs t tc kx vx (ds.drop (i + 1)) (setKs k ks) (setVs k z ks acc) (backR ρ' ρ4 vs) else .stuck
            | none => .stuck
          else if freeR ρ2 vs = true then dcM vs t tc kx vx (ds.drop (i + 1)) ks acc (backR ρ' ρ2 vs) else .stuck) := mono (A2.f.tr s4) hgf
        refine qt (GX (ks.zip ws)) σ3 H3 F3 ρ3 _ S4 ?_
        cases ec : tc ρ3 with
        | ok b ρ4 =>
          rw [ec] at hgf
          refine fun H5 F5 S5 s5 => ?_
          have ra5 := ra3.mono s5
          cases b with
          | true =>
            show if true = true then _ else _
            rw [if_pos rfl]
            refine qk (GX (ks.zip ws)) σ3 H5 F5 ρ4 _ S5 ?_
            have hgf : Fin F5 ((kx ρ4).bind fun y ρ3 => (vx ρ3).bind fun z ρ4 => match keyD y with
              | some k => if ks.length < sizeLine ∧ freeR ρ4 vs = true then dcM vs t tc kx vx (ds.drop (i + 1)) (setKs k ks) (setVs k z ks acc) (backR ρ' ρ4 vs) else .stuck
              | none => .stuck) := mono s5 hgf
            cases ek : kx ρ4 with
            | ok y ρ5 =>
              rw [ek] at hgf
              refine fun H6 F6 S6 s6 yv ry => ?_
              refine qe (GX (ks.zip ws)) σ3 H6 F6 ρ5 _ S6 ?_
              have hgf : Fin F6 ((vx ρ5).bind fun z ρ4 => match keyD y with
                | some k => if ks.length < sizeLine ∧ freeR ρ4 vs = true then dcM vs t tc kx vx (ds.drop (i + 1)) (setKs k ks) (setVs k z ks acc) (backR ρ' ρ4 vs) else .stuck
                | none => .stuck) := mono s6 hgf
              cases ee : vx ρ5 with
              | ok z ρ6 =>
                rw [ee] at hgf
                refine fun H7 F7 S7 s7 zv rz => ?_
                have hgf := mono s7 hgf
                cases kd : keyD y with
                | none => simp only [kd, R.bind] at hgf; exact hgf.elim
                | some k =>
                  have hgf : Fin F7 (if ks.length < sizeLine ∧ freeR ρ6 vs = true then dcM vs t tc kx vx (ds.drop (i + 1)) (setKs k ks) (setVs k z ks acc) (backR ρ' ρ6 vs) else .stuck) := by
                    simp only [kd, R.bind] at hgf; exact hgf
                  split at hgf
                  · rename_i hz
                    have S8 := back S7 (s5.tr (s6.tr s7)) hz.2
                    obtain ⟨x1, x2, x3, x4⟩ := S7.xt (Da, .dK (ks.zip ws)) (List.mem_cons_self ..)
                    have ey : yv = kV k := keyD_v (ry.mono s7) kd
                    refine ⟨ks.zip ws, k, ey, x1, by rw [List.length_zip]; omega, by omega, F7, _, setKs k ks, setVs k zv ks ws, setVs k z ks acc, ?_, s'.tr (A2.f.tr (s4.tr (s5.tr (s6.tr s7)))), set_len lk, set_reps rz ((ra5.mono s6).mono s7), hgf⟩
                    rw [put_zip lk]
                    exact S8.xtUpd
                  · exact hgf.elim
              | exc xx ρ6 => rw [ee] at hgf; exact hgf.elim
              | stuck => rw [ee] at hgf; exact hgf.elim
            | exc xx ρ5 => rw [ek] at hgf; exact hgf.elim
            | stuck => rw [ek] at hgf; exact hgf.elim
          | false =>
            show if false = true then _ else _
            rw [if_neg Bool.false_ne_true]
            have hgf : Fin F5 (if freeR ρ4 vs = true then dcM vs t tc kx vx (ds.drop (i + 1)) ks acc (backR ρ' ρ4 vs) else .stuck) := mono s5 hgf
            split at hgf
            · rename_i hz
              exact ⟨by omega, F5, _, ks, ws, acc, back S5 s5 hz, s'.tr (A2.f.tr (s4.tr s5)), lk, ra5, hgf⟩
            · exact hgf.elim
        | exc xx ρ4 => rw [ec] at hgf; exact hgf.elim
        | stuck => rw [ec] at hgf; exact hgf.elim
      | exc xx ρ3 => rw [e] at hgf; exact hgf.elim
      | stuck => rw [e] at hgf; exact hgf.elim
    · rw [if_neg hpl] at hgf; exact hgf.elim
  · have e0 : ds.drop i = [] := List.drop_eq_nil_of_le (by omega)
    rw [e0] at hgf
    have hgf : Good X.K G W σ F' (.ok (.dct ks acc) ρ') (PD X.K Q) := hgf
    have S2 := S'.xtFreeze
    exact .inl ⟨stop (by omega), hgf H' _ S2.1 S2.2 _ (.dct upd_same lk (ra.mono S2.2))⟩
end
end Mr
namespace Mr
open PySem PySem.Spec PyProof.Rows L2
variable [Lam] [Pins]
def hasS (l : List Str) (x : Str) : Bool := l.any fun q => decide (q = x)
/-- one of each, in the order of their first places -/
def uniqS (xs : List Str) : List Str := xs.foldl (fun acc x => if hasS acc x = true then acc else acc ++ [x]) []
theorem uniqS_snoc (xs : List Str) (x : Str) : uniqS (xs ++ [x]) = if hasS (uniqS xs) x = true then uniqS xs else uniqS xs ++ [x] := by
  unfold uniqS
  rw [List.foldl_append]; rfl
theorem uniqS_le : ∀ (n : Nat) (xs : List Str), xs.length = n → (uniqS xs).length ≤ n := by
  intro n
  induction n with
  | zero => intro xs h; rw [List.eq_nil_of_length_eq_zero h]; exact Nat.le_refl _
  | succ n ih =>
    intro xs h
    have ne : xs ≠ [] := fun z => by rw [z] at h; simp at h
    rw [← List.dropLast_concat_getLast ne, uniqS_snoc]
    have := ih xs.dropLast (by rw [List.length_dropLast, h]; rfl)
    split
    · omega
    · rw [List.length_append, List.length_singleton]; omega
section
variable {prog : Program} {w : World} {A : Around} {E : Value → Shared → Prop}
/-- the set at S holds the first i texts -/
abbrev SetUp (prog : Program) (w : World) (S : Addr) (xs : List Str) (i : Nat) (h : Heap) : Prop := h.SetOf (PySem.strKind prog w) S (hasS (uniqS (xs.take i))) (uniqS (xs.take i)).length
theorem set_loop {R : Result → Shared → Prop} {I : Addr} {fp wr : List Addr} {G : Array GenState → Array GenState → Prop} {n : Nat} {P : Nat → Value → Prop} {St : Nat → Shared → Prop} (W : WalksS prog w A.in1 I fp wr G n P St) (S : Addr) (apart : S ∉ fp) (xs : List Str) (len : xs.length = n) (small : n < 1000)
    (val : ∀ i v, P i v → ∃ t, v = .str (xs.getD i Str.empty) t) : ∀ (left i : Nat) (s : Shared), n - i = left → i ≤ n → St i s → SetUp prog w S xs i s.heap →
      (∀ s', Moved (S :: wr) G s s' → SetUp prog w S xs n s'.heap → R (.ok (.ret .none)) s') → codeAny (model prog w) A (.builtin "set.update.loop" ⟨[.ref S, .ref I], []⟩) R s := by
  have outside : S ∉ wr := fun z => apart (W.sub _ z)
  have wide : ∀ b ∈ wr, b ∈ S :: wr := fun b hb => List.mem_cons_of_mem _ hb
  have carry : ∀ {s s' : Shared} {j : Nat}, Moved wr G s s' → SetUp prog w S xs j s.heap → SetUp prog w S xs j s'.heap := fun m ⟨o, es, ep, t, ho, r⟩ => ⟨o, es, ep, t, m.heap S _ outside ho, r⟩
  intro left
  induction left with
  | zero =>
    intro i s e1 e2 st up fin
    obtain rfl : i = n := by omega
    refine codeAny_builtin PyProof.Rows.F.entry_set_update_loop ?_
    rw [Around.under_plainId PyProof.Rows.F.plain_set_update_loop _]
    show wpAny _ A.in1 (pyNext (.ref I) >>= _) _ _ s
    refine wpAny_bind (W.done s _ _ st fun s' m => ?_)
    show wpAny _ A.in1 (ret Value.none) _ _ s'
    exact wpAny_pure (fin s' (m.mono wide) (carry m up))
  | succ left ih =>
    intro i s e1 e2 st up fin
    have lt : i < n := by omega
    refine codeAny_builtin PyProof.Rows.F.entry_set_update_loop ?_
    rw [Around.under_plainId PyProof.Rows.F.plain_set_update_loop _]
    show wpAny _ A.in1 (pyNext (.ref I) >>= _) _ _ s
    refine wpAny_bind (W.item i s _ _ lt st fun v s1 pv st1 m => ?_)
    obtain ⟨t, rfl⟩ := val i v pv
    have up1 := carry m up
    have ei : xs.getD i Str.empty = xs[i]'(by omega) := by
      rw [List.getD_eq_getElem?_getD, List.getElem?_eq_getElem (by omega)]; rfl
    have bound := uniqS_le _ (xs.take i) rfl
    rw [List.length_take] at bound
    generalize xs.getD i Str.empty = x at ei ⊢
    show wpAny _ A.in1 (holding [Value.str x t] (setAdd S (.str x t)) >>= _) _ _ s1
    refine wpAny_bind (wpAny_holding ?_)
    unfold setAdd
    refine wpAny_holding (wpAny_bind ((PySem.strKind prog w).pyHash (k := x) (PySem.strKind_is _ _ _ _) ?_))
    refine wpAny_setAddHashed_of (knd := PySem.strKind prog w) (s := { s1 with toks := s1.toks + 1 }) (PySem.strKind_is _ _ _ _) rfl up1 (by unfold scanBound; omega) fun h2 sb up2 => ?_
    have up3 : SetUp prog w S xs (i + 1) h2 := by
      have e3 : xs.take (i + 1) = xs.take i ++ [x] := by rw [List.take_succ_eq_append_getElem (by omega), ei]
      unfold SetUp
      rw [e3, uniqS_snoc]
      refine SetOf_congr up2 (fun k => ?_) ?_
      · by_cases hx : hasS (uniqS (xs.take i)) x = true
        · rw [if_pos hx]
          by_cases hk : k = x
          · subst hk; simp [hx]
          · simp [hk]
        · rw [if_neg hx]
          unfold hasS
          rw [List.any_append]
          congr 1
          by_cases hk : k = x
          · subst hk; simp
          · simp [hk, Ne.symm hk]
      · by_cases hx : hasS (uniqS (xs.take i)) x = true
        · rw [if_pos hx, if_pos hx]
        · rw [if_neg hx, if_neg hx, List.length_append]; rfl
    have kept : ∀ b o, b ≠ S → s1.heap.get? b = some o → h2.get? b = some o := fun b o ne e => (sb.2 b ne).trans e
    refine wpAny_pure ⟨plainId_quiet PyProof.Rows.F.plain_set_update_loop _, ih (i + 1) _ (by omega) lt (W.frame _ s1 _ _ st1 (Nat.le_succ _) fun b hb o e => kept b o (fun z => apart (z ▸ hb)) e) up3 fun s2 m2 up4 => ?_⟩
    exact fin s2 (Moved.trans W.gtrans ((m.mono wide).then_heap (Nat.le_succ _) fun b o hb e => kept b o (fun z => hb (z ▸ List.mem_cons_self ..)) e) m2) up4
/-- set(a tuple of texts) -/
theorem set_of_tup {s : Shared} {l : Addr} {its : Array Value} {xs : List Str} {Q : Value → Shared → Prop} (calm : A.handled = none) (tup : s.heap.IsTuple l its) (hstr : PyProof.Rows.StrsAre its.toList xs) (small : xs.length < 1000)
    (h : ∀ (h' : Heap) (tk : Nat), h'.SetOf (PySem.strKind prog w) s.heap.objs.size (hasS (uniqS xs)) (uniqS xs).length → (∀ b o, b < s.heap.objs.size → s.heap.get? b = some o → h'.get? b = some o) → Q (.ref s.heap.objs.size) { s with heap := h', toks := tk }) :
    wpAny (model prog w) A (call (.type "set") [.ref l]) Q E s := by
  obtain ⟨c, tl, mro⟩ := PySem.F.called_set.mro
  have made := PySem.F.called_set.made
  have sub0 := PySem.F.called_set.sub
  refine wpAny_call (codeAny_of_tree ?_)
  show wpAny _ _ (callAny (.type "set") _) _ _ _
  refine wpAny_pure ⟨Code.quiet_builtin _ (by decide +kernel), codeAny_builtin PySem.F.entry_type_call ?_⟩
  rw [Around.under_plain (weight_type_call_type "set" [.ref l] []) rfl]
  have notT := PySem.F.called_set.notType
  have canC := PySem.F.called_set.canCreate
  have callS := PySem.F.typeCall_set_1 (.ref l)
  repeat (any_goals (first | assumption | wp_step))
  -- the empty set
  refine codeAny_mono (code_set_new_1 (.ref l) (E := E) (Q₁ := fun ob s1 => ∃ led : Bool, ob = .ref s.heap.objs.size ∧ s1 = { s with heap := s.heap.push { cls := .type "set", dict := none, data := .set #[] 0 (.fresh 0 0 led) } }) fun led => ⟨led, rfl, rfl⟩) fun r s1 hr => ?_
  match r, hr with
  | .error e, hr => exact hr
  | .ok .next, hr => exact hr.elim
  | .ok .brk, hr => exact hr.elim
  | .ok .cont, hr => exact hr.elim
  | .ok (.ret ob), ⟨led, e1, e2⟩ =>
    subst e1 e2
    have got : (s.heap.push { cls := .type "set", dict := none, data := .set #[] 0 (.fresh 0 0 led) }).get? s.heap.objs.size = some { cls := .type "set", dict := none, data := .set #[] 0 (.fresh 0 0 led) } := Heap.get?_push_size _ rfl
    have isSet : Shared.TypeIs { s with heap := s.heap.push { cls := .type "set", dict := none, data := .set #[] 0 (.fresh 0 0 led) } } (.ref s.heap.objs.size) "set" := ⟨_, got, rfl⟩
    have look := PySem.F.called_set.init.lookup
    have bind0 := PySem.F.called_set.init.bind (.ref s.heap.objs.size)
    repeat (any_goals (first | assumption | wp_step))
    refine codeAny_mono (codeAny_call_builtin (R := wants (fun r s2 => r = .none ∧ ∃ h' tk, s2 = { s with heap := h', toks := tk } ∧ h'.SetOf (PySem.strKind prog w) s.heap.objs.size (hasS (uniqS xs)) (uniqS xs).length ∧
      (∀ b o, b < s.heap.objs.size → s.heap.get? b = some o → h'.get? b = some o)) E) PySem.F.called_set.init.plain PySem.F.entry_set_init (check_set_init_1 isSet ?_)) fun r2 s2 hr2 => ?_
    · obtain ⟨ol, hol, hcl, nl, hdl⟩ := tup
      obtain ⟨ocls, odict, odata, oslots⟩ := ol
      obtain rfl : ocls = Value.type "tuple" := hcl
      obtain rfl : odata = Data.seq its nl := hdl
      have low : l < s.heap.objs.size := Heap.lt_size hol
      have atl : (s.heap.push { cls := .type "set", dict := none, data := .set #[] 0 (.fresh 0 0 led) }).get? l = some { cls := .type "tuple", dict := odict, data := .seq its nl, slots := oslots } := Heap.get?_push_of_some _ hol
      have s1 := PySem.F.sub_tuple_set
      have s2 := PySem.F.sub_tuple_frozenset
      have s3 : (Value.type "tuple" == Value.type "dict") = false := by decide
      have tup1 : (s.heap.push { cls := .type "set", dict := none, data := .set #[] 0 (.fresh 0 0 led) }).IsTuple l its := ⟨_, atl, rfl, nl, rfl⟩
      unfold Builtin.«set.__init__» noKeywords Builtin.Frozenset.updateFrom
      generalize hPI : pyIter = PI
      wp_walk
      subst hPI
      refine wpAny_pyIter_tuple tup1 ?_
      refine wpAny_bind (wpAny_runValue ?_)
      have calm3 : A.in1.in1.in1.handled = none := by simp [calm]
      have sz1 : (s.heap.push { cls := .type "set", dict := none, data := .set #[] 0 (.fresh 0 0 led) }).objs.size = s.heap.objs.size + 1 := Heap.size_push ..
      have n1 : l ≠ (s.heap.push { cls := .type "set", dict := none, data := .set #[] 0 (.fresh 0 0 led) }).objs.size := by rw [sz1]; exact Nat.ne_of_lt (Nat.lt_succ_of_lt low)
      have n2 : s.heap.objs.size ∉ [(s.heap.push { cls := .type "set", dict := none, data := .set #[] 0 (.fresh 0 0 led) }).objs.size, l] := by
        rw [sz1]
        simp only [List.mem_cons, List.not_mem_nil, or_false, not_or]
        exact ⟨Nat.ne_of_lt (Nat.lt_succ_self _), Nat.ne_of_gt low⟩
      have len : xs.length = its.size := by rw [← StrsAre.len_eq hstr, Array.length_toList]
      have vals : ∀ (i : Nat) (v : Value), its[i]? = some v → ∃ t, v = .str (xs.getD i Str.empty) t := fun i v hv => SS.strs_at hstr i v (by rw [Array.getElem?_toList]; exact hv)
      have full : xs.take its.size = xs := by rw [← len, List.take_length]
      refine set_loop ((Walks.tuple calm3 _ l n1 its).toS) s.heap.objs.size n2 xs len (by omega) vals (its.size - 0) 0 _ rfl (Nat.zero_le _) ⟨⟨_, Heap.get?_push_size _ rfl, rfl, rfl⟩, tup1.push _⟩ ?_ ?_
      · refine SetOf_congr ((PyProof.Rows.setObjOf_fresh (knd := PySem.strKind prog w) led).setOf (a := s.heap.objs.size) (Heap.get?_push_of_some _ got) (by unfold scanBound; omega)) (fun _ => rfl) rfl
      · intro s' mv up
        obtain ⟨h', g', d', tk', os'⟩ := s'
        obtain rfl : g' = s.gens := mv.gens
        obtain rfl : d' = s.drawn := mv.drawn
        obtain rfl : os' = s.os := mv.os
        unfold SetUp at up
        rw [full] at up
        show wpAny _ _ _ _ _ _
        refine wpAny_pure ?_
        show wpAny _ _ (ret Value.none) _ _ _
        refine wpAny_pure ⟨rfl, h', tk', rfl, up, fun b o hb e => mv.heap b o ?_ (Heap.get?_push_of_some _ (Heap.get?_push_of_some _ e))⟩
        simp only [List.mem_cons, List.not_mem_nil, or_false, not_or]
        exact ⟨Nat.ne_of_lt hb, by rw [sz1]; exact Nat.ne_of_lt (Nat.lt_succ_of_lt hb)⟩
    · match r2, hr2 with
      | .error e, hr2 => exact hr2
      | .ok .next, hr2 => exact hr2.elim
      | .ok .brk, hr2 => exact hr2.elim
      | .ok .cont, hr2 => exact hr2.elim
      | .ok (.ret r), ⟨e3, h', tk, e4, up, kp⟩ =>
        subst e3 e4
        repeat (any_goals (first | assumption | wp_step))
        exact h _ _ up kp
end
end Mr
namespace Mr
open PySem PySem.Spec PyProof.Rows L2
variable [Lam] [Pins]
def strsD : List D → Option (List Str)
  | [] => some []
  | .str x :: r => (strsD r).map (x :: ·)
  | _ => none
def lenSetD : D → FR D
  | .tup xs => match strsD xs with
    | some ss => if ss.length < 1000 then .ok (.int (uniqS ss).length) else .stuck
    | none => .stuck
  | _ => .stuck
theorem strsD_vals {K : PySem.W.Frag} {H : Hp} : ∀ {vs : List V} {ds : List D} {ss : List Str}, Reps K H vs ds → strsD ds = some ss → vs = ss.map V.str
  | _, _, ss, .nil, h => by cases h; rfl
  | _, _, ss, .cons (d := d) (ds := ds) r t, h => by
    cases d with
    | str x =>
      unfold strsD at h
      obtain ⟨r', e, rfl⟩ := Option.map_eq_some_iff.mp h
      cases r
      rw [strsD_vals t e]; rfl
    | _ => cases h
theorem strs_are : ∀ {ss : List Str} {us : List Value}, Vals (ss.map V.str) us → PyProof.Rows.StrsAre us ss
  | [], _, .nil => .nil
  | x :: ss, _, .cons r t => by
    obtain ⟨k, rfl⟩ := r
    exact .cons x k (strs_are t)
section
variable {X : Cx} {W : WX} {e : Expr} {fe : M D} {p p2 pos q : Pos}
def tLenS (K : PySem.W.Frag) (ta : TE) : TE := fun σ H Q => ta σ H fun x H1 => ∃ l ss, x = .ref l ∧ SqT K H1 l (ss.map V.str) ∧ ss.length < 1000 ∧ Q (.int (uniqS ss).length) H1
theorem pe_lenS {ta : TE} (hc : X.calm = true) (hg : Gl X "len") (hm : X.mg "len" = none) (hg2 : Gl X "set") (hm2 : X.mg "set" = none) (ha : PE X e ta)
    (na : starEach [e] X.env = (false, eval e X.env) :: starEach [] X.env := by rfl) : PE X (.Call (.Name "len" p) [.Call (.Name "set" p2) [e] [] q] [] pos) (tLenS X.K ta) := by
  refine ⟨fun pins s σ H Q I h => Call_ (ld_blt I hg hm boot_len (PyProof.Rows.callWith_builtin1 (PyProof.Rows.args_cons ?_ rfl) rfl rfl))⟩
  refine Call_ (ld_blt I hg2 hm2 (show bootBuiltins "set" = some (.type "set") by decide +kernel) ?_)
  refine PyProof.Rows.callWith_type1 (PyProof.Rows.args_cons (thn (ha.run pins s σ H _ I h) fun v s1 ⟨x, H1, I1, r1, q1⟩ => PyProof.Rows.args_nil ?_) na) na rfl
  obtain ⟨l, ss, rfl, hq, hl, q1⟩ := q1
  cases r1
  obtain ⟨its, r, pl, hz⟩ := I1.tuple hq
  refine set_of_tup (I1.ok.hd hc) pl (by simpa using strs_are r) hl fun h' tk hS hk => ?_
  refine PyProof.Rows.args_nil ?_
  have bd := uniqS_le _ ss rfl
  obtain ⟨o, es, ep, t, ho, hex, hd, _, _, _, hf, hn⟩ := hS
  have I2 : Inv X pins σ H1 { s1 with heap := h', toks := tk } := I1.kept fun b o e => hk b o (Heap.lt_size e) e
  exact call_len_set ho hex hd hf (by rw [hn]; omega) ⟨.int (uniqS ss).length, H1, I2.tok _, ⟨_, by rw [hn]⟩, q1⟩
theorem AE.lenS (hc : X.calm = true) (hg : Gl X "len") (hm : X.mg "len" = none) (hg2 : Gl X "set") (hm2 : X.mg "set" = none) (ha : AE X W e fe)
    (na : starEach [e] X.env = (false, eval e X.env) :: starEach [] X.env := by rfl) : AE X W (.Call (.Name "len" p) [.Call (.Name "set" p2) [e] [] q] [] pos) (m1 lenSetD fe) := by
  obtain ⟨t, pe, qe⟩ := ha
  refine ⟨_, pe_lenS hc hg hm hg2 hm2 pe na, fun G σ H F ρ Q S hg => qe G σ H F ρ _ S (hg.bind fun d ρ1 H1 F1 S1 s1 g1 v r1 => ?_)⟩
  cases r1 with
  | tup hx rx =>
    rename_i ds
    have g2 : Good X.K G W σ F1 ((match strsD ds with | some ss => if ss.length < 1000 then FR.ok (D.int (uniqS ss).length) else .stuck | none => .stuck).lift ρ1) (PD X.K Q) := g1
    cases e1 : strsD ds with
    | none => simp only [e1] at g2; exact g2.elim
    | some ss =>
      simp only [e1] at g2
      split at g2
      · rename_i hl
        rw [strsD_vals rx e1] at hx
        exact ⟨_, ss, rfl, SqTm S1.sub hx, hl, g2 H1 F1 S1 Sm.refl _ (.int _)⟩
      · exact g2.elim
  | _ => exact g1.elim
def Dd : D → Option He.Dv
  | .non => some .non
  | .bl b => some (.bl b)
  | .int i => some (.int i)
  | .str x => some (.str x)
  | _ => none
def dvs : List D → Option (List He.Dv)
  | [] => some []
  | d :: ds => match Dd d, dvs ds with
    | some a, some r => some (a :: r)
    | _, _ => none
theorem dvs_reps {K : PySem.W.Frag} {F : Hp} : ∀ {ds : List D} {r : List He.Dv}, dvs ds = some r → Reps K F (r.map (He.Dv.v K)) ds
  | [], r, h => by cases h; exact .nil
  | d :: ds, r, h => by
    unfold dvs at h
    cases e1 : Dd d with
    | none => simp only [e1] at h; cases h
    | some a =>
      cases e2 : dvs ds with
      | none => simp only [e1, e2] at h; cases h
      | some q =>
        simp only [e1, e2] at h
        cases h
        refine .cons ?_ (dvs_reps e2)
        cases d <;> cases e1 <;> first | exact .non | exact .bl _ | exact .int _ | exact .str _
/-- the module's name x is the tuple of these -/
def tabB (x : Str) (ds : List D) (K : PySem.W.Frag) : Bool := match dvs ds with
  | some r => He.eqO (PySem.W.nsIn K mainGlobals x) (some (some (.ref (He.ga K x)))) && He.tupB K x r
  | none => false
structure TabF (X : Cx) (x : Str) (ds : List D) : Prop where
  m : X.mg x = some (.ref (He.ga X.K x))
  r : ∀ F : Hp, Rep X.K F (.ref (He.ga X.K x)) (.tup ds)
theorem tab_rep {K : PySem.W.Frag} {x : Str} {ds : List D} (h : tabB x ds K = true) (F : Hp) : Rep K F (.ref (He.ga K x)) (.tup ds) := by
  unfold tabB at h
  cases e : dvs ds with
  | none => rw [e] at h; cases h
  | some r =>
    rw [e] at h
    exact .tup (He.tupB_ok (He.ba h).2 F) (dvs_reps e)
theorem tab_mg {K : PySem.W.Frag} {h : Heap} {mg : Str → Option Value} {x : Str} {ds : List D} (I : K.In h) (G : h.Ns mainGlobals mg) (c : tabB x ds K = true) : mg x = some (.ref (He.ga K x)) := by
  unfold tabB at c
  cases e : dvs ds with
  | none => rw [e] at c; cases c
  | some r =>
    rw [e] at c
    exact PySem.W.mg_of I G (He.eqO_ok (He.ba c).1)
theorem AE.gtab {x : Str} {ds : List D} {k : Pos} (hg : Gl X x) (hm : X.mg x = some (.ref (He.ga X.K x))) (hr : ∀ F : Hp, Rep X.K F (.ref (He.ga X.K x)) (.tup ds)) (hdb : (x == ("__debug__" : Str)) = false := by decide) : AE X W (.Name x k) (mC (.tup ds)) :=
  ⟨_, pe_glob (v := .ref (He.ga X.K x)) hg hm rfl hdb, fun G σ H F ρ Q S hgd => hgd H F S Sm.refl _ (hr F)⟩
end
end Mr
namespace Mr
open PySem PySem.Spec PyProof.Rows L2
variable [Lam] [Pins]
/-- the getter of the property f of the class c -/
def pgA (c f : Str) (K : PySem.W.Frag) : Addr := match PySem.W.findIn K (.ref (He.ga K c)) f with
  | some (some (.ref p)) => (match PySem.W.recIn K p "property" with
    | some (.ref g :: _) => g
    | _ => 0)
  | _ => 0
def glA (x : Str) (K : PySem.W.Frag) : Addr := He.ga K x
def meA (c f : Str) (K : PySem.W.Frag) : Addr := He.ma K (He.ga K c) f
/-- the class c has the property f -/
def propB (c f : Str) (K : PySem.W.Frag) : Bool := match PySem.W.findIn K (.ref (He.ga K c)) f with
  | some (some (.ref p)) => He.eqO (PySem.W.specialIn K (.ref p) "__get__") (some (some (.builtin "property.__get__"))) && (decide (PySem.W.takesIn K (.ref p) = some true) && (match PySem.W.recIn K p "property" with
    | some (.ref _ :: _) => true
    | _ => false))
  | _ => false
theorem propB_ok {c f : Str} {K : PySem.W.Frag} (h : propB c f K = true) : ∃ p, PropOf K (He.ga K c) f p (pgA c f K) := by
  unfold propB at h
  split at h
  · rename_i p e
    obtain ⟨h1, h⟩ := He.ba h
    obtain ⟨h2, h3⟩ := He.ba h
    split at h3
    · rename_i g rest e2
      refine ⟨p, e, He.eqO_ok h1, of_decide_eq_true h2, rest, ?_⟩
      unfold pgA
      simp only [e, e2]
    · cases h3
  · cases h
/-- a def: where it stands, its name, qualified name, parameters, body, scope, defaults -/
structure DefM where
  at_ : PySem.W.Frag → Addr
  name : Str
  qual : Str
  params : Arguments
  body : List Stmt
  scope : Scope
  dfl : List He.Dv := []
  cl : List Str := []
def fnM (K : PySem.W.Frag) (a : Addr) : He.FnW := match K.lookup a with
  | some ⟨_, _, .func fd, _⟩ => some (fd.name, fd.qualname, fd.params, fd.body, fd.scope, fd.globals, fd.closure.map fun p => (p.1, 0), fd.builtins)
  | _ => none
def DefM.val (d : DefM) : He.FnW := some (d.name, d.qual, d.params, .stmts d.body, d.scope, mainGlobals, d.cl.map fun x => (x, 0), builtinsNs)
def DefM.dvs (K : PySem.W.Frag) (d : DefM) : List V := d.dfl.map (He.Dv.v K)
def DefM.ok (K : PySem.W.Frag) (d : DefM) : Bool := PySem.W.keepIn K (.ref (d.at_ K)) && (match K.lookup (d.at_ K) with
  | some ⟨_, _, .func fd, _⟩ => PySem.W.codeIn K fd.code d.qual && He.dflB K fd.defaults (d.dvs K)
  | _ => false)
theorem DefM.funD {K : PySem.W.Frag} {d : DefM} (hcl : d.cl = []) (e : fnM K (d.at_ K) = d.val) (c : d.ok K = true) : ∃ fd, FunD K d.name d.qual d.params d.body d.scope (d.dvs K) [] (d.at_ K) fd := by
  obtain ⟨kp, c⟩ := He.ba c
  unfold fnM at e
  split at e
  · rename_i oc od fd osl lk
    rw [lk] at c
    obtain ⟨n1, n2, n3, n4, n5, n6, n7, n8, n9, n10, n11, n12, n13, n14, n15⟩ := fd
    have e2 : (some (n1, n2, n3, n4, n5, n6, n7.map fun p => (p.1, 0), n15) : He.FnW) = d.val := e
    unfold DefM.val at e2
    rw [hcl] at e2
    simp only [Option.some.injEq, Prod.mk.injEq, List.map_nil, List.map_eq_nil_iff] at e2
    obtain ⟨rfl, rfl, rfl, rfl, rfl, rfl, rfl, rfl⟩ := e2
    obtain ⟨k1, k2⟩ := He.ba (show (PySem.W.codeIn K n13 d.qual && He.dflB K n8 (d.dvs K)) = true from c)
    exact ⟨_, ⟨oc, od, n8, n9, n10, n11, n12, n13, n14, osl, rfl, lk, k1, He.dflB_ok k2, He.kwdB_ok (kws := []) rfl⟩, kp⟩
  · cases e
abbrev AlM : Type := Bool × List He.FnW
def obsM (fa : List He.Fa) (tb : List (PySem.W.Frag → Bool)) (fn : List DefM) (K : PySem.W.Frag) : AlM := ((fa.all fun f => f.ok K) && ((tb.all fun t => t K) && fn.all fun d => d.ok K), fn.map fun d => fnM K (d.at_ K))
def valM (fn : List DefM) : AlM := (true, fn.map DefM.val)
def SaysM (fa : List He.Fa) (tb : List (PySem.W.Frag → Bool)) (fn : List DefM) (K : PySem.W.Frag) : Prop := obsM fa tb fn K = valM fn
/-- such a def, what its lambdas are called -/
structure LamM where
  at_ : PySem.W.Frag → Addr
  q : Str
def codP (K : PySem.W.Frag) (f : Addr) : Addr := match codV K f with
  | .ref c => c
  | _ => 0
/-- the table of its code object -/
def tabP (K : PySem.W.Frag) (f : Addr) : Addr := match K.lookup (codP K f) with
  | some ⟨_, _, .fields vs, _⟩ => (match vs.getD 11 .none with
    | .ref P => P
    | _ => 0)
  | _ => 0
def lamT (ls : List LamM) (K : PySem.W.Frag) : List (Addr × Str) := ls.map fun l => (tabP K (l.at_ K), l.q)
/-- the module of the built-in names -/
def bmB (K : PySem.W.Frag) (P : Addr) : Bool := match PySem.W.nsIn K mainGlobals "__builtins__" with
  | some (some (.ref bm)) => !decide (bm = builtinsNs) && (!decide (bm = mainGlobals) && (!decide (bm = P) && (match K.lookup bm with
    | some ⟨.type "module", some d, .plain, _⟩ => decide (d = builtinsNs)
    | _ => false)))
  | _ => false
def lam1 (K : PySem.W.Frag) (l : LamM) : Bool := decide (codV K (l.at_ K) = .ref (codP K (l.at_ K))) && (PySem.W.codeHdIn K (codP K (l.at_ K)) (tabP K (l.at_ K)) && (bmB K (tabP K (l.at_ K)) && (!decide (mainGlobals = tabP K (l.at_ K)) && (K.lookup (tabP K (l.at_ K))).isNone)))
def lamB (ls : List LamM) (K : PySem.W.Frag) : Bool := (ls.all fun l => lam1 K l) && (lamT ls K).all fun p => (lamT ls K).all fun q => !decide (p.1 = q.1) || decide (p.2 = q.2)
def emptyB (g : Addr → Option Obj) (P : Addr) : Bool := match g P with
  | some ⟨.none, none, .fields vs, sl⟩ => vs.isEmpty && sl.isEmpty
  | _ => false
theorem emptyB_ok {h : Heap} {P : Addr} (e : emptyB h.get? P = true) : h.get? P = some { cls := .none, data := .fields #[] } := by
  unfold emptyB at e
  split at e
  · rename_i vs sl q
    obtain ⟨e1, e2⟩ := He.ba e
    rw [q, Array.isEmpty_iff.mp e1, Array.isEmpty_iff.mp e2]
  · cases e
def fragL (ls : List LamM) (g : Addr → Option Obj) (as : List Addr) : PySem.W.Frag :=
  match ls with
  | [] => He.frG g as
  | _ => He.frG g (as.filter fun a => !((lamT ls (He.frG g as)).map (·.1)).contains a)
theorem fragL_in {ls : List LamM} {as : List Addr} {h : Heap} : (fragL ls h.get? as).In h := by
  unfold fragL
  split <;> exact He.frG_in
/-- what is looked at: also the statics of the interpreter -/
def addR : List Addr → Nat → List Addr → Nat × List Addr
  | [], m, out => (m, out)
  | a :: r, m, out => match Nat.beq (Nat.land (Nat.shiftRight m a) 1) 1 with
    | true => addR r m out
    | false => addR r (Nat.lor m (Nat.shiftLeft 1 a)) (a :: out)
def levelR (g : Addr → Option Obj) : List Addr → Nat → List Addr → Nat × List Addr
  | [], m, out => (m, out)
  | a :: fr, m, out => match g a with
    | some o => (match addR (He.refsD o) m out with
      | (m', out') => levelR g fr m' out')
    | none => levelR g fr m out
/-- what is reached from some objects in so many steps (what was seen: the bits of a number) -/
def reachR (g : Addr → Option Obj) : Nat → List Addr → Nat → List Addr → List Addr
  | 0, fr, _, acc => acc ++ fr
  | n + 1, fr, m, acc => match levelR g fr m [] with
    | (m', new) => reachR g n new m' (acc ++ fr)
def asM (g : Addr → Option Obj) (n : Nat) : List Addr := cStatics :: sysModules :: reachR g n [mainGlobals] (Nat.shiftLeft 1 mainGlobals) []
/-- written dicts: their names, their keys -/
abbrev WdL : Type := List (Str × List Str)
abbrev AlX : Type := AlM × List (Option (List (Option (Str × Int))))
def obsMG (n : Nat) (fa : List He.Fa) (tb : List (PySem.W.Frag → Bool)) (fn : List DefM) (ls : List LamM) (wd : WdL) (g : Addr → Option Obj) : AlX :=
  (((obsM fa tb fn (fragL ls g (asM g n))).1 && (lamB ls (fragL ls g (asM g n)) && (lamT ls (fragL ls g (asM g n))).all fun p => emptyB g p.1), (obsM fa tb fn (fragL ls g (asM g n))).2), wd.map fun d => He.dicW (fragL ls g (asM g n)) (He.ga (fragL ls g (asM g n)) d.1))
/-- what is known of the written dicts -/
def WdAt (wd : WdL) (w : World) (K : PySem.W.Frag) : Prop := ∀ d ∈ wd, He.dicW K (He.ga K d.1) = some (He.keysIn w.params d.2)
/-- what is known of the lambdas' tables -/
def LamsAt (ls : List LamM) (K : PySem.W.Frag) (h : Heap) : Prop := lamB ls K = true ∧ ∀ p ∈ lamT ls K, h.get? p.1 = some { cls := .none, data := .fields #[] }
def hookM (n : Nat) (fa : List He.Fa) (tb : List (PySem.W.Frag → Bool)) (fn : List DefM) (ls : List LamM) (wd : WdL) : PySem.W.Hook where
  α := AlX
  obs := fun s => obsMG n fa tb fn ls wd s.heap.get?
  val := fun w => (valM fn, wd.map fun d => some (He.keysIn w.params d.2))
  says := fun w h => ∃ K : PySem.W.Frag, K.In h ∧ SaysM fa tb fn K ∧ LamsAt ls K h ∧ WdAt wd w K
  of := fun w s e => by
    have e : obsMG n fa tb fn ls wd s.heap.get? = (valM fn, wd.map fun d => some (He.keysIn w.params d.2)) := e
    unfold obsMG valM at e
    obtain ⟨e, h5⟩ := Prod.mk.injEq .. ▸ e
    obtain ⟨h1, h2⟩ := Prod.mk.injEq .. ▸ e
    obtain ⟨h1, h3⟩ := He.ba h1
    obtain ⟨h3, h4⟩ := He.ba h3
    exact ⟨fragL ls s.heap.get? (asM s.heap.get? n), fragL_in, Prod.ext h1 h2, ⟨h3, fun p hp => emptyB_ok (List.all_eq_true.mp h4 p hp)⟩, fun d hd => List.map_inj_left.mp h5 d hd⟩
  keeps := fun _ _ _ ⟨K, hK, c, ⟨l1, l2⟩, d⟩ k => ⟨K, PySem.W.Frag.In.keeps hK k, c, ⟨l1, fun p hp => k _ _ (l2 p hp)⟩, d⟩
theorem obsMG_eq {n : Nat} {fa : List He.Fa} {tb : List (PySem.W.Frag → Bool)} {fn : List DefM} {ls : List LamM} {wd : WdL} {g : Addr → Option Obj} {s : Shared} (h : ∀ a, g a = s.heap.get? a) : obsMG n fa tb fn ls wd g = (hookM n fa tb fn ls wd).obs s := by
  have e : g = s.heap.get? := funext h
  rw [e] <;> rfl
theorem lamB_at {ls : List LamM} {K : PySem.W.Frag} (h : lamB ls K = true) (i : Nat) {l : LamM} (e : ls[i]? = some l := by rfl) : lam1 K l = true := List.all_eq_true.mp (He.ba h).1 l (List.mem_of_getElem? e)
/-- what the making of a lambda in the def at f asks -/
structure LamF (K : PySem.W.Frag) (mg : Str → Option Value) (f : Addr) (q : Str) : Prop where
  ex : ∃ c P, codV K f = .ref c ∧ PySem.W.codeHdIn K c P = true ∧ (P, q) ∈ Lam.T K ∧ (∀ p ∈ Lam.T K, p.1 = P → p.2 = q) ∧ mainGlobals ≠ P ∧ ∀ base : Heap, K.In base → base.BuiltinsAt mg P
theorem lamF_ok {K : PySem.W.Frag} {h : Heap} {mg : Str → Option Value} (X : K.In h) (G : h.Ns mainGlobals mg) {ls : List LamM} (hT : Lam.T K = lamT ls K) (hb : lamB ls K = true) (i : Nat) {l : LamM} (e : ls[i]? = some l := by rfl) : LamF K mg (l.at_ K) l.q := by
  obtain ⟨h1, h2⟩ := He.ba (lamB_at hb i e)
  obtain ⟨h2, h3⟩ := He.ba h2
  obtain ⟨h3, h4⟩ := He.ba h3
  obtain ⟨h4, h5⟩ := He.ba h4
  have hm : (tabP K (l.at_ K), l.q) ∈ Lam.T K := by
    rw [hT]
    exact List.mem_map.mpr ⟨l, List.mem_of_getElem? e, rfl⟩
  refine ⟨_, tabP K (l.at_ K), of_decide_eq_true h1, h2, hm, fun p hp ep => ?_, by simpa using h4, fun base X2 => ?_⟩
  · rw [hT] at hp hm
    have u := List.all_eq_true.mp (List.all_eq_true.mp (He.ba hb).2 p hp) _ hm
    rw [ep] at u
    simpa using u
  · unfold bmB at h3
    split at h3
    · rename_i bm q
      obtain ⟨b1, h3⟩ := He.ba h3
      obtain ⟨b2, h3⟩ := He.ba h3
      obtain ⟨b3, h3⟩ := He.ba h3
      split at h3
      · rename_i d sl lk
        have hd : d = builtinsNs := of_decide_eq_true h3
        exact ⟨bm, _, PySem.W.mg_of X G q, by simpa using b1, by simpa using b2, by simpa using b3, X2 _ _ lk, rfl, congrArg some hd, rfl⟩
      · cases h3
    · cases h3
section
variable {fa : List He.Fa} {tb : List (PySem.W.Frag → Bool)} {fn : List DefM} {K : PySem.W.Frag}
theorem SaysM.parts (c : SaysM fa tb fn K) : (fa.all fun f => f.ok K) = true ∧ (tb.all fun t => t K) = true ∧ (fn.all fun d => d.ok K) = true := by
  obtain ⟨h1, h2⟩ := He.ba (show ((fa.all fun f => f.ok K) && ((tb.all fun t => t K) && fn.all fun d => d.ok K)) = true from congrArg (fun z : AlM => z.1) c)
  exact ⟨h1, He.ba h2⟩
theorem SaysM.fact (c : SaysM fa tb fn K) (i : Nat) {f : He.Fa} (h : fa[i]? = some f := by rfl) : f.ok K = true := List.all_eq_true.mp c.parts.1 f (List.mem_of_getElem? h)
theorem SaysM.test (c : SaysM fa tb fn K) (i : Nat) {t : PySem.W.Frag → Bool} (h : tb[i]? = some t := by rfl) : t K = true := List.all_eq_true.mp c.parts.2.1 t (List.mem_of_getElem? h)
theorem SaysM.def_ (c : SaysM fa tb fn K) (i : Nat) {d : DefM} (h : fn[i]? = some d := by rfl) (hcl : d.cl = [] := by rfl) : ∃ fd, FunD K d.name d.qual d.params d.body d.scope (d.dvs K) [] (d.at_ K) fd := by
  have e : fn.map (fun d => fnM K (d.at_ K)) = fn.map DefM.val := congrArg (fun z : AlM => z.2) c
  have e2 : (fn.map fun d => fnM K (d.at_ K))[i]? = (fn.map DefM.val)[i]? := by rw [e]
  rw [List.getElem?_map, List.getElem?_map, h] at e2
  exact DefM.funD hcl (Option.some.inj e2) (List.all_eq_true.mp c.parts.2.2 d (List.mem_of_getElem? h))
end
end Mr
namespace Mr
open PySem PySem.Spec PyProof.Rows L2
variable [Lam] [Pins]
/-- a value, a new list -/
inductive MV where
  | v (d : D)
  | n (ds : List D)
inductive MRep (K : PySem.W.Frag) (F : Hp) : List (Addr × HO) → List V → List MV → Prop where
  | nil : MRep K F [] [] []
  | v {xs : List (Addr × HO)} {vs : List V} {ms : List MV} {u : V} {d : D} : Rep K F u d → MRep K F xs vs ms → MRep K F xs (u :: vs) (.v d :: ms)
  | n {xs : List (Addr × HO)} {vs ws : List V} {ms : List MV} {a : Addr} {ds : List D} : Reps K F ws ds → MRep K F xs vs ms → MRep K F ((a, .lst ws) :: xs) (.ref a :: vs) (.n ds :: ms)
theorem Stt.xtPerm {K : PySem.W.Frag} {H0 F0 : Hp} {io : List (Nat × Addr)} {xt xt' : List (Addr × HO)} {σ : St} {H F : Hp} {ρ : Ro} (S : Stt K ⟨H0, F0, io, xt⟩ σ H F ρ) (p : List.Perm xt xt') : Stt K ⟨H0, F0, io, xt'⟩ σ H F ρ :=
  ⟨S.sub, S.ft, S.tb, S.same, S.ext, S.new, S.len, S.at_, S.dis, S.fresh, S.io, fun q hq => S.xt q (p.mem_iff.mpr hq), fun q hq => S.xx q (p.mem_iff.mpr hq), (p.map _).nodup_iff.mp S.xtd, S.pin, S.pf⟩
section
variable {X : Cx} {W : WX} {e : Expr} {es : List Expr} {pos : Pos}
def AM (X : Cx) (W : WX) (es : List Expr) (f : M (List MV)) : Prop := ∃ t, PA X es t ∧ ∀ G σ H F ρ Q, Stt X.K G σ H F ρ →
  Good X.K G W σ F (f ρ) (fun ms ρ' H' F' => ∀ vs xs H2, Stt X.K ⟨G.H0, G.F0, G.io, xs ++ G.xt⟩ σ H2 F' ρ' → MRep X.K F' xs vs ms → Q vs H2) → t σ H Q
def mMV (f : M D) (r : M (List MV)) : M (List MV) := fun ρ => (f ρ).bind fun d ρ => (r ρ).bind fun ms ρ => .ok (.v d :: ms) ρ
def mMN (f : M (List D)) (r : M (List MV)) : M (List MV) := fun ρ => (f ρ).bind fun ds ρ => (r ρ).bind fun ms ρ => .ok (.n ds :: ms) ρ
def mMNil : M (List MV) := fun ρ => .ok [] ρ
theorem MRep.mono {K : PySem.W.Frag} {F F' : Hp} (s : Sm F F') : ∀ {xs : List (Addr × HO)} {vs : List V} {ms : List MV}, MRep K F xs vs ms → MRep K F' xs vs ms
  | _, _, _, .nil => .nil
  | _, _, _, .v r t => .v (r.mono s) (t.mono s)
  | _, _, _, .n r t => .n (r.mono s) (t.mono s)
theorem AM.nil : AM X W [] mMNil := ⟨_, pa_nil, fun G σ H F ρ Q S hg => hg H F S Sm.refl [] [] H S .nil⟩
theorem AM.v {fe : M D} {fs : M (List MV)} (he : AE X W e fe) (hr : AM X W es fs) (hs : starEach (e :: es) X.env = (false, eval e X.env) :: starEach es X.env := by rfl) : AM X W (e :: es) (mMV fe fs) := by
  obtain ⟨t, pe, qe⟩ := he
  obtain ⟨u, pr, qr⟩ := hr
  refine ⟨_, pa_cons pe pr hs, fun G σ H F ρ Q S hg => qe G σ H F ρ _ S (hg.bind fun d ρ1 H1 F1 S1 s1 g1 v r1 => qr G σ H1 F1 ρ1 _ S1 (g1.bind fun ms ρ2 H2 F2 S2 s2 g2 vs xs H3 S3 rm => ?_))⟩
  exact g2 H2 F2 S2 Sm.refl _ _ H3 S3 (.v (r1.mono s2) rm)
theorem AM.n {fe : M (List D)} {fs : M (List MV)} (he : AN X W e fe) (hr : AM X W es fs) (hs : starEach (e :: es) X.env = (false, eval e X.env) :: starEach es X.env := by rfl) : AM X W (e :: es) (mMN fe fs) := by
  obtain ⟨t, pe, qe⟩ := he
  obtain ⟨u, pr, qr⟩ := hr
  refine ⟨_, pa_cons pe pr hs, fun G σ H F ρ Q S hg => qe G σ H F ρ _ S (hg.bind fun ds ρ1 H1 F1 S1 s1 g1 a ws H2 S2 r => ?_)⟩
  have key : Good X.K ⟨G.H0, G.F0, G.io, (a, .lst ws) :: G.xt⟩ W σ F1 (fs ρ1) (fun ms ρ' H' F' => ∀ vs xs H2, Stt X.K ⟨G.H0, G.F0, G.io, xs ++ (a, .lst ws) :: G.xt⟩ σ H2 F' ρ' → MRep X.K F' xs vs ms → Q (.ref a :: vs) H2) := by
    have g1 : Good X.K G W σ F1 ((fs ρ1).bind fun ms ρ => .ok (MV.n ds :: ms) ρ) _ := g1
    cases ef : fs ρ1 with
    | ok ms ρ2 =>
      rw [ef] at g1
      refine fun H' F' S' s' vs xs H3 S3 rm => ?_
      have S4 : Stt X.K ⟨G.H0, G.F0, G.io, ((a, .lst ws) :: xs) ++ G.xt⟩ σ H3 F' ρ2 := S3.xtPerm (by
        rw [List.cons_append]
        exact List.perm_middle)
      have drop : ∀ (l : List (Addr × HO)), Stt X.K ⟨G.H0, G.F0, G.io, l ++ G.xt⟩ σ H3 F' ρ2 → Stt X.K G σ H3 F' ρ2 := fun l => by
        induction l with
        | nil => exact id
        | cons q l ih => exact fun S => ih S.xtDrop
      exact g1 H3 F' (drop _ S4) s' _ _ H3 S4 (.n (r.mono s') rm)
    | exc x ρ2 =>
      rw [ef] at g1
      exact fun d H' F' S' s' xa => g1 d H' F' S'.xtDrop s' xa
    | stuck => rw [ef] at g1; exact g1.elim
  exact qr ⟨G.H0, G.F0, G.io, (a, .lst ws) :: G.xt⟩ σ H2 F1 ρ1 _ S2 key
def putMs : List Nat → List MV → Ro → R Fl
  | [], [], ρ => .ok .nx ρ
  | i :: is, .v d :: ms, ρ => if (ρ.getD i .un).isIo = true then .stuck else putMs is ms (ρ.set i (.val d))
  | i :: is, .n ds :: ms, ρ => if (ρ.getD i .un).isIo = true then .stuck else putMs is ms (ρ.set i (.own false ds))
  | _, _, _ => .stuck
def setVsσ : List Nat → List V → St → St
  | i :: is, v :: vs, σ => setVsσ is vs (σ.set i (some v))
  | _, _, σ => σ
theorem putMs_good {K : PySem.W.Frag} {H0 F0 H F : Hp} {io : List (Nat × Addr)} {xt : List (Addr × HO)} {Dn : Ends} {ms : List MV} {vs : List V} {xs : List (Addr × HO)} (rm : MRep K F xs vs ms) : ∀ {is : List Nat} {σ : L2.St} {ρ : Ro}, Stt K ⟨H0, F0, io, xs ++ xt⟩ σ H F ρ →
    GoodS K ⟨H0, F0, io, xt⟩ W F (putMs is ms ρ) Dn → vs.length = is.length ∧ Dn.nx (setVsσ is vs σ) H := by
  induction rm with
  | nil =>
    intro is σ ρ S hg
    cases is with
    | nil => exact ⟨rfl, hg σ H F S Sm.refl⟩
    | cons i is => exact hg.elim
  | v r t ih =>
    intro is σ ρ S hg
    cases is with
    | nil => exact hg.elim
    | cons i is =>
      unfold putMs at hg
      split at hg
      · exact hg.elim
      · rename_i h
        obtain ⟨l, q⟩ := ih (S.setVal (i := i) (by simpa using h) r) hg
        exact ⟨by rw [List.length_cons, List.length_cons, l], q⟩
  | n r t ih =>
    rename_i xs1 vs1 ws ms1 a ds
    intro is σ ρ S hg
    cases is with
    | nil => exact hg.elim
    | cons i is =>
      unfold putMs at hg
      split at hg
      · exact hg.elim
      · rename_i h
        obtain ⟨e1, e2, _, _⟩ := S.xt (a, .lst ws) (List.mem_cons_self ..)
        have S2 : Stt K ⟨H0, F0, io, xs1 ++ xt⟩ (σ.set i (some (V.ref a))) H F (ρ.set i (.own false ds)) := Stt.xtSlot (a := a) (o := .lst ws) (xt := xs1 ++ xt) S (by simpa using h) ⟨a, ws, rfl, e1, e2, r⟩ rfl
        obtain ⟨l, q⟩ := ih S2 hg
        exact ⟨by rw [List.length_cons, List.length_cons, l], q⟩
def xParM (is : List Nat) (fs : M (List MV)) : M Fl := fun ρ => (fs ρ).bind fun ms ρ => putMs is ms ρ
theorem AM.fin {t : TA} {is : List Nat} {fs : M (List MV)} (q : ∀ G σ H F ρ Q, Stt X.K G σ H F ρ → Good X.K G W σ F (fs ρ) (fun ms ρ' H' F' => ∀ vs xs H2, Stt X.K ⟨G.H0, G.F0, G.io, xs ++ G.xt⟩ σ H2 F' ρ' → MRep X.K F' xs vs ms → Q vs H2) → t σ H Q)
    {G : Ent} {σ : L2.St} {H F : Hp} {ρ : Ro} {Dn : Ends} (S : Stt X.K G σ H F ρ) (hg : GoodS X.K G W F (xParM is fs ρ) Dn) : t σ H fun vs H1 => vs.length = is.length ∧ Dn.nx (setVsσ is vs σ) H1 := by
  refine q G σ H F ρ _ S ?_
  have hg : GoodS X.K G W F ((fs ρ).bind fun ms ρ => putMs is ms ρ) Dn := hg
  cases ef : fs ρ with
  | ok ms ρ1 =>
    rw [ef] at hg
    exact fun H' F' S' s' vs xs H2 S2 rm => putMs_good rm S2 (GoodS.mono s' hg)
  | exc x ρ1 =>
    rw [ef] at hg
    exact fun d H' F' S' s' xa => hg d σ H' F' S' s' xa
  | stuck => rw [ef] at hg; exact hg.elim
theorem AS.parM2 {i j : Nat} {x y : Str} {a b : Expr} {fs : M (List MV)} {px py pt : Pos} {kt k2 pt2} (hc : X.calm = true) (hN : X.N.Nodup) (hi : X.N[i]? = some x) (hj : X.N[j]? = some y) (hij : i ≠ j)
    (hx : X.env.scope.names.lookup x = some .local) (hy : X.env.scope.names.lookup y = some .local) (ha : AM X W [a, b] fs)
    (hw : swappedStores [.Tuple [.Name x px, .Name y py] kt pt] (.Tuple [a, b] k2 pt2) X.env = pure (some [x, y]) := by rfl)
    (hs : swapsWithSole [.Tuple [.Name x px, .Name y py] kt pt] (.Tuple [a, b] k2 pt2) pos.line X.env = pure false := by rfl) :
    AS X W (.Assign [.Tuple [.Name x px, .Name y py] kt pt] (.Tuple [a, b] k2 pt2) pos) (xParM [i, j] fs) := by
  obtain ⟨t, p, q⟩ := ha
  refine ⟨_, ps_par hc hN hi hj hij hx hy p hw hs, fun G σ H F ρ Dn S hg => ?_⟩
  have r := AM.fin q S hg
  have em : (fun (vs : List V) (H1 : Hp) => vs.length = [i, j].length ∧ Dn.nx (setVsσ [i, j] vs σ) H1) = fun vs H1 => ∃ v w, vs = [v, w] ∧ Dn.nx ((σ.set i (some v)).set j (some w)) H1 := by
    funext vs H1
    match vs with
    | [] => exact propext ⟨fun z => by simp at z, fun ⟨_, _, z, _⟩ => by cases z⟩
    | [_] => exact propext ⟨fun z => by simp at z, fun ⟨_, _, z, _⟩ => by cases z⟩
    | [v, w] => exact propext ⟨fun z => ⟨v, w, rfl, z.2⟩, fun ⟨_, _, z, q⟩ => by cases z; exact ⟨rfl, q⟩⟩
    | _ :: _ :: _ :: _ => exact propext ⟨fun z => by simp at z, fun ⟨_, _, z, _⟩ => by cases z⟩
  rw [em] at r
  exact r
theorem AS.parM3 {i j l : Nat} {x y z : Str} {a b c : Expr} {fs : M (List MV)} {px py pz pt : Pos} {kt k2 pt2} (hc : X.calm = true) (hN : X.N.Nodup) (hi : X.N[i]? = some x) (hj : X.N[j]? = some y) (hl : X.N[l]? = some z) (hij : i ≠ j) (hil : i ≠ l) (hjl : j ≠ l)
    (hx : X.env.scope.names.lookup x = some .local) (hy : X.env.scope.names.lookup y = some .local) (hz : X.env.scope.names.lookup z = some .local) (ha : AM X W [a, b, c] fs)
    (hw : swappedStores [.Tuple [.Name x px, .Name y py, .Name z pz] kt pt] (.Tuple [a, b, c] k2 pt2) X.env = pure (some [x, y, z]) := by rfl)
    (hs : swapsWithSole [.Tuple [.Name x px, .Name y py, .Name z pz] kt pt] (.Tuple [a, b, c] k2 pt2) pos.line X.env = pure false := by rfl) :
    AS X W (.Assign [.Tuple [.Name x px, .Name y py, .Name z pz] kt pt] (.Tuple [a, b, c] k2 pt2) pos) (xParM [i, j, l] fs) := by
  obtain ⟨t, p, q⟩ := ha
  refine ⟨_, ps_par3 hc hN hi hj hl hij hil hjl hx hy hz p hw hs, fun G σ H F ρ Dn S hg => ?_⟩
  have r := AM.fin q S hg
  have em : (fun (vs : List V) (H1 : Hp) => vs.length = [i, j, l].length ∧ Dn.nx (setVsσ [i, j, l] vs σ) H1) = fun vs H1 => ∃ u v w, vs = [u, v, w] ∧ Dn.nx (((σ.set i (some u)).set j (some v)).set l (some w)) H1 := by
    funext vs H1
    match vs with
    | [] => exact propext ⟨fun z => by simp at z, fun ⟨_, _, _, z, _⟩ => by cases z⟩
    | [_] => exact propext ⟨fun z => by simp at z, fun ⟨_, _, _, z, _⟩ => by cases z⟩
    | [_, _] => exact propext ⟨fun z => by simp at z, fun ⟨_, _, _, z, _⟩ => by cases z⟩
    | [u, v, w] => exact propext ⟨fun z => ⟨u, v, w, rfl, z.2⟩, fun ⟨_, _, _, z, q⟩ => by cases z; exact ⟨rfl, q⟩⟩
    | _ :: _ :: _ :: _ :: _ => exact propext ⟨fun z => by simp at z, fun ⟨_, _, _, z, _⟩ => by cases z⟩
  rw [em] at r
  exact r
/-- raise C("..") -/
def xRaise (c : Str) : M Fl := fun ρ => .exc ⟨.own c, []⟩ ρ
structure ExcF (K : PySem.W.Frag) (c : Str) : Prop where
  q : PySem.W.excIn K (He.ga K c) He.veBase "ValueError.__new__" = true
  k : PySem.W.keepIn K (.ref (He.ga K c)) = true
  s : PySem.W.subIn K (.ref (He.ga K c)) (.type "BaseException") = some true
  t : PySem.W.typeIn K (.ref (He.ga K c)) = some (.type "type")
section
variable {X : Cx} {W : WX}
theorem AS.raise {c m : Str} {j : Nat} {p p2 pos pos' : Pos} (hc : X.calm = true) (tk : Takes X W) (E : ExcF X.K c) (mc : X.mg c = some (.ref (He.ga X.K c))) (gc : Gl X c) (hdb : (c == ("__debug__" : Str)) = false := by decide) :
    AS X W (.Raise (some (.Call (.Name c p) [.Constant (.str m) j p2] [] pos)) none pos') (xRaise c) := by
  refine ⟨_, ps_raise hc tk (pmk_own PySem.F.excBase_ValueError E.q mc E.k (raises_own E.s E.t) gc hdb), fun G σ H F ρ Dn S hg => ?_⟩
  exact hg none σ H F S Sm.refl (.inl ⟨rfl, rfl⟩)
end
theorem exc_of {K : PySem.W.Frag} {c : Str} (h : (He.Fa.exc c).ok K = true) : ExcF K c := let ⟨a, b, d, e⟩ := He.exc_ok h; ⟨a, b, d, e⟩
end
end Mr
namespace Mr
open PySem PySem.Spec PyProof.Rows L2
variable [Lam] [Pins]
section
variable {X : Cx} {W : WX} {k n : Nat} {f : Addr} {fd : FuncData} {ps : List Str} {x y : Str} {p py pos : Pos} {e o : Expr} {fe : M D} {fs : M (List D)} {mi : SV → List D → IR}
def IA (X : Cx) (W : WX) (op : Operator) (g : D → D → FR D) : Prop := OA X W (inplaceOp op) g
def mulSD : D → D → FR D
  | .int i, .int j => if ((-18446744073709551616 < i ∧ i < 18446744073709551616) ∨ (-18446744073709551616 < j ∧ j < 18446744073709551616)) then .ok (.int (i * j)) else .stuck
  | _, _ => .stuck
def addSD : D → D → FR D
  | .int i, .int j => .ok (.int (i + j))
  | .str a, .str b => if a.length + b.length ≤ sizeLine then .ok (.str (a ++ b)) else .stuck
  | _, _ => .stuck
theorem IA.add : IA X W .Add addSD := by
  refine ⟨_, OpR.or iop_add iop_add_str, fun G σ H F ρ x y dx dy Q S rx ry hg => ?_⟩
  unfold addSD at hg
  split at hg
  · cases rx; cases ry
    exact .inl ⟨_, _, rfl, rfl, hg H F S Sm.refl _ (.int _)⟩
  · cases rx; cases ry
    split at hg
    · rename_i h
      exact .inr ⟨_, _, rfl, rfl, h, hg H F S Sm.refl _ (.str _)⟩
    · exact hg.elim
  · exact hg.elim
theorem IA.sub : IA X W .Sub subD := by
  refine ⟨_, iop_sub, fun G σ H F ρ x y dx dy Q S rx ry hg => ?_⟩
  unfold subD at hg
  split at hg
  · cases rx; cases ry
    exact ⟨_, _, rfl, rfl, hg H F S Sm.refl _ (.int _)⟩
  · exact hg.elim
theorem IA.mul : IA X W .Mult mulSD := by
  refine ⟨_, iop_mul, fun G σ H F ρ x y dx dy Q S rx ry hg => ?_⟩
  unfold mulSD at hg
  split at hg
  · cases rx; cases ry
    split at hg
    · rename_i h
      refine ⟨_, _, rfl, rfl, ?_, hg H F S Sm.refl _ (.int _)⟩
      rcases h with h | h
      · exact .inl ⟨by omega, by omega⟩
      · exact .inr ⟨by omega, by omega⟩
    · exact hg.elim
  · exact hg.elim
def mIoT (mi : SV → List D → IR) (fs : M (List D)) : M D := fun ρ => (fs ρ).bind fun ds ρ => match mi (.own true ds) [] with
  | .ok d _ => .ok d ρ
  | .exc x _ => .exc x ρ
  | .stuck => .stuck
theorem AE.callIoT (Fn : FnG X.prog X.w X.K X.mg X.base k f fd ps (ISp X.K 0 mi)) (hr : RoomG k X.A) (hg : Gl X x) (hm : X.mg x = some (.ref f)) (hk : PySem.W.keepIn X.K (.ref f) = true) (hb : Binds X.K fd ps []) (tk : Takes X W)
    (ha : AN X W e fs) (hdb : (x == ("__debug__" : Str)) = false := by decide) (he : starEach [e] X.env = (false, eval e X.env) :: starEach [] X.env := by rfl) (hpl : (backTo pos (starEach [] X.env)).any (·.1) = false := by rfl) :
    AE X W (.Call (.Name x p) [e] [] pos) (mIoT mi fs) := by
  obtain ⟨t, pa, qa⟩ := ha
  refine ⟨_, pe_callW (W := W) Fn hr hg hm hk hb .nil tk (pa_cons pa pa_nil he) hdb he hpl, fun G σ H F ρ Q S hgd => qa G σ H F ρ _ S (hgd.bind fun ds ρ1 H1 F1 S1 s1 g1 a vs H2 S2 r => ?_)⟩
  obtain ⟨e1, e2, e3, e4⟩ := S2.xt (a, .lst vs) (List.mem_cons_self ..)
  refine ⟨rfl, F1, a, [], .own true ds, [], rfl, S2.pre, ⟨a, vs, rfl, e1, e2, r⟩, rfl, .nil, ?_⟩
  have back : ∀ {sv : SV} {H' F' : Hp}, AftIo X.K a sv H2 F1 H' F' → Stt X.K G σ H' F' ρ1 := fun {sv H' F'} A => by
    obtain ⟨b, u, f1, f2, f3, f4⟩ := A.at_.there (SV.own_of_io A.own)
    cases f1
    have S3 := S2.xtUpd (o' := u) f4
    refine (S3.grow (H' := H') (F' := F') ⟨fun b w h n => ?_, fun _ => A.h.t S2.tb⟩ A.sub A.f (fun b w h => ?_) (A.ft S2.ft)).xtDrop
    · by_cases z : b = a
      · subst z; rw [upd_same] at h; cases h; exact f2
      · rw [upd_ne z] at h; exact A.h.k b w z h n
    · rcases A.new b w h with q | q
      · exact .inl q
      · refine .inr fun o e => ?_
        rw [upd_ne (fun z => by subst z; rw [f3] at h; cases h)] at e; exact q o e
  cases em : mi (.own true ds) [] with
  | ok d sv =>
    rw [em] at g1
    exact fun v H' F' A rv => g1 H' F' (back A) A.f v rv
  | exc xx sv =>
    rw [em] at g1
    exact fun d H' F' A rv => g1 d H' F' (back A) A.f rv
  | stuck => rw [em] at g1; exact g1
end
end Mr
namespace Mr
open PySem PySem.Spec PyProof.Rows L2
variable [Lam] [Pins]
inductive Kd where
  | l | t
def SqK (K : PySem.W.Frag) : Kd → Hp → Addr → List V → Prop
  | .l => SqL K
  | .t => SqT K
def IsK (kd : Kd) (h : Heap) (a : Addr) (its : Array Value) : Prop := match kd with
  | .l => h.IsList a its
  | .t => h.IsTuple a its
def ItK (kd : Kd) (h : Heap) (it a : Addr) (i : Nat) : Prop := match kd with
  | .l => h.IsListIter it a i
  | .t => h.IsTupleIter it a i
def itO (kd : Kd) (a : Addr) : Obj := match kd with
  | .l => { cls := .type "list_iterator", data := .fields #[.ref a, .int 0 0] }
  | .t => { cls := .type "tuple_iterator", data := .fields #[.ref a, .int 0 0] }
section
variable {prog : Program} {w : World} {A : Around} {kd : Kd}
theorem drawsK (hh : A.handled = none) (it a : Addr) (ne : a ≠ it) (its : Array Value) : Draws prog w A it [it, a] its.size (fun i v => its[i]? = some v) (fun i h => ItK kd h it a i ∧ IsK kd h a its) := match kd with
  | .l => Draws.list hh it a ne its
  | .t => Draws.tuple hh it a ne its
theorem beginsK (a : Addr) (its : Array Value) : Begins (.ref a) (itO kd a) fun h => IsK kd h a its := match kd with
  | .l => begins_list a its
  | .t => begins_tuple a its
theorem itK_at {h : Heap} {it a : Addr} {i : Nat} (r : ItK kd h it a i) : ∃ o fs, h.get? it = some o ∧ o.data = .fields fs := match kd, r with
  | .l, ⟨o, e, _, d⟩ => ⟨o, _, e, d⟩
  | .t, ⟨o, e, _, d⟩ => ⟨o, _, e, d⟩
theorem itK_keep {h h' : Heap} {it a : Addr} {i : Nat} (r : ItK kd h it a i) (k : ∀ o, h.get? it = some o → h'.get? it = some o) : ItK kd h' it a i := match kd, r with
  | .l, r => r.at fun o q => k o q
  | .t, r => r.at fun o q => k o q
theorem itK_new {h : Heap} {it a : Addr} (e : h.get? it = some (itO kd a)) : ItK kd h it a 0 := match kd, e with
  | .l, e => ⟨_, e, rfl, rfl⟩
  | .t, e => ⟨_, e, rfl, rfl⟩
end
section
variable {X : Cx} {W : WX}
theorem sqK_heap {pins : List (Addr × Obj)} {σ : L2.St} {H : Hp} {s : Shared} {kd : Kd} {a : Addr} {xs : List V} (I : Inv X pins σ H s) (h : SqK X.K kd H a xs) : ∃ its : List Value, Vals xs its ∧ IsK kd s.heap a its.toArray := by
  cases kd with
  | l => obtain ⟨its, rv, p, _⟩ := I.list h; exact ⟨its, rv, p.isList⟩
  | t => obtain ⟨its, rv, p, _⟩ := I.tuple h; exact ⟨its, rv, p⟩
theorem sqK_inj {pins : List (Addr × Obj)} {σ : L2.St} {H : Hp} {s : Shared} {kd : Kd} {a : Addr} {xs ys : List V} (I : Inv X pins σ H s) (h : SqK X.K kd H a xs) (h' : SqK X.K kd H a ys) : xs = ys := by
  cases kd with
  | l => exact I.list_inj h h'
  | t => exact I.tuple_inj h h'
theorem isK_at {h : Heap} {kd : Kd} {a : Addr} {its : Array Value} (r : IsK kd h a its) : ∃ o, h.get? a = some o := by
  cases kd with
  | l => obtain ⟨o, e, _⟩ := r; exact ⟨o, e⟩
  | t => obtain ⟨o, e, _⟩ := r; exact ⟨o, e⟩
/-- the sequences at a and b, the items in new pairs -/
def ItzK (K : PySem.W.Frag) (k1 k2 : Kd) (a b : Addr) : It :=
  ⟨fun i H => ∃ (xs ys : List V) (x y : V), SqK K k1 H a xs ∧ SqK K k2 H b ys ∧ xs[i]? = some x ∧ ys[i]? = some y,
    fun i H v H' => ∃ T x y, v = .ref T ∧ H T = none ∧ H' = upd H T (.tup [x, y]) ∧ (∀ xs, SqK K k1 H a xs → xs[i]? = some x) ∧ ∀ ys, SqK K k2 H b ys → ys[i]? = some y,
    fun i H => ∃ xs ys : List V, SqK K k1 H a xs ∧ SqK K k2 H b ys ∧ i ≤ xs.length ∧ i ≤ ys.length ∧ (i = xs.length ∨ i = ys.length)⟩
theorem turn_zipK {P : Program} {w : World} {K : PySem.W.Frag} {elts : List Expr} {kk : Nat} {tpos : Pos} {k1 k2 : Kd} {a b z TI TO i1 i2 : Addr} (D : ZipSep2 z TI TO i1 i2 [i1, a] [i2, b]) (na : a ≠ i1) (nb : b ≠ i2) :
    Turn P w K (.Tuple elts kk tpos) (ItzK K k1 k2 a b) [z, TI, TO, i1, i2] z (fun i h => IsZip h z TI TO .none ∧ IsTupOf2 h TI (.ref i1) (.ref i2) ∧ (∃ x y, IsTupOf2 h TO x y) ∧ ItK k1 h i1 a i ∧ ItK k2 h i2 b i) where
  mem := by simp
  obj := fun i h st c hc => by
    obtain ⟨hz, hTI, ⟨x, y, hTO⟩, s1, s2⟩ := st
    rcases (by simpa using hc : c = z ∨ c = TI ∨ c = TO ∨ c = i1 ∨ c = i2) with rfl | rfl | rfl | rfl | rfl
    · exact ⟨_, hz, fun v q => nomatch q⟩
    · exact ⟨_, hTI, fun v q => nomatch q⟩
    · exact ⟨_, hTO, fun v q => nomatch q⟩
    · obtain ⟨o, fs, e, n⟩ := itK_at s1; exact ⟨o, e, fun v q => by rw [n] at q; cases q⟩
    · obtain ⟨o, fs, e, n⟩ := itK_at s2; exact ⟨o, e, fun v q => by rw [n] at q; cases q⟩
  keep := fun i h h' st k => by
    obtain ⟨hz, hTI, ⟨x, y, hTO⟩, s1, s2⟩ := st
    exact ⟨k z (by simp) _ hz, k TI (by simp) _ hTI, ⟨x, y, k TO (by simp) _ hTO⟩, itK_keep s1 fun o q => k i1 (by simp) o q, itK_keep s2 fun o q => k i2 (by simp) o q⟩
  item := by
    intro X hP hw hK hc i pins s σ H E I hf st hg
    subst hP hw hK
    obtain ⟨hz, hTI, ⟨x0, y0, hTO⟩, s1, s2⟩ := st
    obtain ⟨xs, ys, x, y, qx, qy, hx, hy⟩ := hg
    obtain ⟨its, rv, p1⟩ := sqK_heap I qx
    obtain ⟨its2, rv2, p2⟩ := sqK_heap I qy
    obtain ⟨u, hu, ru⟩ := rv.get hx
    obtain ⟨u2, hu2, ru2⟩ := rv2.get hy
    have lz : z < s.heap.objs.size := Heap.lt_size hz
    have hh : X.A.in1.handled = none := by simpa using I.ok.hd hc
    have b1 : i < its.toArray.size := by have := (List.getElem?_eq_some_iff.mp hu).1; simpa using this
    have b2 : i < its2.toArray.size := by have := (List.getElem?_eq_some_iff.mp hu2).1; simpa using this
    refine wpAny_pyNext_zipD2_item D (drawsK (kd := k1) hh i1 a na its.toArray) (drawsK (kd := k2) hh i2 b nb its2.toArray) hz hTI hTO ⟨s1, p1⟩ ⟨s2, p2⟩ b1 b2 fun v1 v2 h' tk e1 e2 hz' hTO' t1 t2 hT hsz hk => ?_
    have ev1 : v1 = u := by
      have : its[i]? = some v1 := by simpa using e1
      rw [hu] at this; cases this; rfl
    have ev2 : v2 = u2 := by
      have : its2[i]? = some v2 := by simpa using e2
      rw [hu2] at this; cases this; rfl
    subst ev1 ev2
    refine ⟨_, rfl, wpAny_letOwnedTupleGo_zip (s := { s with heap := h', toks := tk }) hz' fun h'' hz'' sb => ?_⟩
    have hT2 : h''.get? s.heap.objs.size = some { cls := .type "tuple", data := .seq #[v1, v2] } := (sb.2 _ (Nat.ne_of_gt lz)).trans hT
    have new : ObjOk X.prog X.w (upd H s.heap.objs.size (.tup [x, y])) h'' s.heap.objs.size (.tup [x, y]) :=
      ⟨by show 2 ≤ sizeLine; decide, [v1, v2], .cons ru (.cons ru2 .nil), ⟨_, hT2, rfl, _, rfl⟩⟩
    have nTI : ∀ {c : Addr}, c ≠ z → (h''.get? c = h'.get? c) := fun n => sb.2 _ n
    have J : Inv X pins σ (upd H s.heap.objs.size (.tup [x, y])) { s with heap := h'', toks := tk } :=
      I.turnedNew (ch := [z, TI, TO, i1, i2]) (fun c o hb q => (sb.2 c (fun q' => hb (by simp [q']))).trans (hk c o (fun q' => hb (by simp [q'])) (fun q' => hb (by simp [q'])) (fun q' => hb (by simp [q'])) (fun q' => hb (by simp [q'])) q)) hf (Nat.le_refl _) new
    refine ⟨.ref s.heap.objs.size, _, J, rfl, ⟨_, x, y, rfl, I.hok.fresh (Nat.le_refl _), rfl, fun l hl => by rw [sqK_inj I hl qx]; exact hx, fun l hl => by rw [sqK_inj I hl qy]; exact hy⟩, ⟨hz'', ?_, ⟨v1, v2, ?_⟩, ?_, ?_⟩, fun c hcm => ?_⟩
    · exact (sb.2 _ D.TIz).trans (hk _ _ D.TIz D.TITO D.TIi1 D.TIi2 hTI)
    · exact (sb.2 _ D.TOz).trans hTO'
    · exact itK_keep t1.1 fun o q => (sb.2 _ (fun e => D.zf1 (by rw [← e]; simp))).trans q
    · exact itK_keep t2.1 fun o q => (sb.2 _ (fun e => D.zf2 (by rw [← e]; simp))).trans q
    · have lt : c < s.heap.objs.size := by
        rcases (by simpa using hcm : c = z ∨ c = TI ∨ c = TO ∨ c = i1 ∨ c = i2) with rfl | rfl | rfl | rfl | rfl
        · exact lz
        · exact Heap.lt_size hTI
        · exact Heap.lt_size hTO
        · obtain ⟨o, _, e, _⟩ := itK_at s1; exact Heap.lt_size e
        · obtain ⟨o, _, e, _⟩ := itK_at s2; exact Heap.lt_size e
      rw [upd_ne (Nat.ne_of_lt lt)]
      exact (hf c hcm).1
  done := by
    intro X hP hw hK hc i pins s σ H E I hf st hg
    subst hP hw hK
    obtain ⟨hz, hTI, ⟨x0, y0, hTO⟩, s1, s2⟩ := st
    obtain ⟨xs, ys, qx, qy, l1, l2, le⟩ := hg
    obtain ⟨its, rv, p1⟩ := sqK_heap I qx
    obtain ⟨its2, rv2, p2⟩ := sqK_heap I qy
    have e1 : its.toArray.size = xs.length := by rw [List.size_toArray, rv.length]
    have e2 : its2.toArray.size = ys.length := by rw [List.size_toArray, rv2.length]
    have hh : X.A.in1.handled = none := by simpa using I.ok.hd hc
    exact wpAny_pyNext_zipD2_end D (drawsK (kd := k1) hh i1 a na its.toArray) (drawsK (kd := k2) hh i2 b nb its2.toArray) hz hTI hTO ⟨s1, p1⟩ ⟨s2, p2⟩ (by omega) (by omega) (by omega) fun h' tk hk => ⟨rfl, I.turnedL (t' := tk) (ch := [z, TI, TO, i1, i2]) (fun c o hb q =>
      hk c o (fun q' => hb (by simp [q'])) (fun q' => hb (by simp [q'])) (fun q' => hb (by simp [q'])) (fun q' => hb (by simp [q'])) q) hf⟩
  self := fun A i s Q E st h => wpAny_pyIter_zip st.1 h
def zipMD : List D → FR (List D)
  | [a, b] => match seqD a, seqD b with
    | some xs, some ys => .ok (xs.zipWith (fun x y => .tup [x, y]) ys)
    | _, _ => .stuck
  | _ => .stuck
theorem seqD_rep {K : PySem.W.Frag} {H : Hp} {v : V} {d : D} {xs : List D} (r : Rep K H v d) (h : seqD d = some xs) : ∃ kd a vs, v = .ref a ∧ SqK K kd H a vs ∧ Reps K H vs xs := by
  cases r <;> cases h
  · exact ⟨.t, _, _, rfl, by assumption, by assumption⟩
  · exact ⟨.l, _, _, rfl, SqL.of (by assumption), by assumption⟩
  · exact ⟨.l, _, _, rfl, by assumption, by assumption⟩
theorem SqKm {K : PySem.W.Frag} {H H' : Hp} {kd : Kd} {a : Addr} {xs : List V} (s : Sm H H') (h : SqK K kd H a xs) : SqK K kd H' a xs := by
  cases kd with
  | l => exact SqLm s h
  | t => exact SqTm s h
def iZipK (K : PySem.W.Frag) (ta : TA) : TI := fun σ H R => ta σ H fun vs H1 => ∃ k1 k2 a b xs ys, vs = [.ref a, .ref b] ∧ SqK K k1 H1 a xs ∧ SqK K k2 H1 b ys ∧ R (ItzK K k1 k2 a b) H1
theorem pi_zipK {e e2 : Expr} {ta : TA} {p pos tpos : Pos} {elts : List Expr} {kk : Nat} (hg : Gl X "zip") (hm : X.mg "zip" = none) (ha : PA X [e, e2] ta)
    (hs : starEach [e, e2] X.env = (false, eval e X.env) :: starEach [e2] X.env := by rfl) (hpl : (backTo pos (starEach [e2] X.env)).any (·.1) = false := by rfl) :
    PI X (.Tuple elts kk tpos) (.Call (.Name "zip" p) [e, e2] [] pos) (iZipK X.K ta) := by
  refine ⟨fun pins s σ H R I h => Call_ (ld_blt I hg hm (show bootBuiltins "zip" = some (.type "zip") by decide +kernel) (PyProof.Rows.callWith_type1 (thn (ha.run pos pins s σ H _ I h) fun us s1 ⟨vs, H1, I1, r1, q1⟩ => ?_) hs hpl))⟩
  obtain ⟨k1, k2, a, b, xs, ys, ex, hq1, hq2, q⟩ := q1
  subst ex
  obtain ⟨u1, u2, rfl, r1, r2⟩ : ∃ u1 u2, us = [u1, u2] ∧ RelV (.ref a) u1 ∧ RelV (.ref b) u2 := by
    cases r1 with
    | cons p q => cases q with
      | cons p' q' => cases q'; exact ⟨_, _, rfl, p, p'⟩
  cases r1; cases r2
  obtain ⟨its, rv, p1⟩ := sqK_heap I1 hq1
  obtain ⟨its2, rv2, p2⟩ := sqK_heap I1 hq2
  obtain ⟨o1, ho1⟩ := isK_at p1
  obtain ⟨o2, ho2⟩ := isK_at p2
  have la : a < s1.heap.objs.size := Heap.lt_size ho1
  have lb : b < s1.heap.objs.size := Heap.lt_size ho2
  refine zip_begins2 (beginsK (kd := k1) a its.toArray) (beginsK (kd := k2) b its2.toArray) p1 p2 fun h' hz hTI hTO e1 e2 hsz hk => wpAny_pyIter_zip hz ?_
  have I2 : Inv X pins σ H1 { s1 with heap := h' } := I1.kept (t' := s1.toks) hk
  generalize hN : s1.heap.objs.size = N at *
  have sep : ZipSep2 (N + 4) (N + 2) (N + 3) N (N + 1) [N, a] [N + 1, b] := zip_sep2 (N := N) (fp1 := [a]) (fp2 := [b]) (fun c hc => by rw [List.mem_singleton.mp hc]; exact la) (fun c hc => by rw [List.mem_singleton.mp hc]; exact lb)
  refine ⟨N + 4, [N + 4, N + 2, N + 3, N, N + 1], _, _, H1, rfl, I2, turn_zipK sep (Nat.ne_of_lt la) (Nat.ne_of_lt (Nat.lt_succ_of_lt lb)), ⟨hz, hTI, ⟨_, _, hTO⟩, itK_new e1, itK_new e2⟩, fun c hc => ?_, q⟩
  have hle : s1.heap.objs.size ≤ c := by
    rw [hN]
    rcases (by simpa using hc : c = N + 4 ∨ c = N + 2 ∨ c = N + 3 ∨ c = N ∨ c = N + 1) with z | z | z | z | z <;> rw [z] <;> first | exact Nat.le_refl _ | exact Nat.le_add_right _ _
  exact I1.fpOk hle (I1.hok.fresh hle)
theorem okZK {K : PySem.W.Frag} {F : Hp} {k1 k2 : Kd} {a b : Addr} {vs us : List V} {ds es : List D} (h : SqK K k1 F a vs) (r : Reps K F vs ds) (h' : SqK K k2 F b us) (r' : Reps K F us es) : ItOk K (ItzK K k1 k2 a b) F (ds.zipWith (fun x y => .tup [x, y]) es) := fun i H F' s1 s2 => by
  have h1 := SqKm (s1.tr s2) h
  have h2 := SqKm (s1.tr s2) h'
  refine ⟨fun hi => ⟨vs, us, h1, h2, ?_⟩, fun d hd => ?_⟩
  · rw [List.length_zipWith] at hi
    rw [r.length, r'.length]
    omega
  obtain ⟨x, y, e1, e2, rfl⟩ := zip_get hd
  obtain ⟨v, f1, rv⟩ := r.get i e1
  obtain ⟨u, f2, ru⟩ := r'.get i e2
  refine ⟨⟨vs, us, v, u, h1, h2, f1, f2⟩, fun z H' ⟨T, x', y', ez, hT, eH, q1, q2⟩ => ?_⟩
  cases (q1 vs h1).symm.trans f1
  cases (q2 us h2).symm.trans f2
  subst ez eH
  exact ⟨upd F' T (.tup [v, u]), .tup s2 hT, .tup (.of upd_same) (.cons (rv.mono (s1.tr (Sm.updN (s2.none hT)))) (.cons (ru.mono (s1.tr (Sm.updN (s2.none hT)))) .nil))⟩
theorem AI.zipM {e e2 : Expr} {fs : M (List D)} {p pos tpos : Pos} {elts : List Expr} {kk : Nat} (hg : Gl X "zip") (hm : X.mg "zip" = none) (ha : AA X W [e, e2] fs)
    (hs : starEach [e, e2] X.env = (false, eval e X.env) :: starEach [e2] X.env := by rfl) (hpl : (backTo pos (starEach [e2] X.env)).any (·.1) = false := by rfl) :
    AI X W (.Tuple elts kk tpos) (.Call (.Name "zip" p) [e, e2] [] pos) (mItL zipMD fs) := by
  obtain ⟨t, pa, qa⟩ := ha
  refine ⟨_, pi_zipK hg hm pa hs hpl, fun G σ H F ρ R S hgd => qa G σ H F ρ _ S (hgd.bind fun ds ρ1 H1 F1 S1 s1 g1 vs r1 => ?_)⟩
  unfold zipMD at g1
  split at g1
  · rename_i a b
    obtain ⟨v, u, rfl, rv, ru⟩ := reps2 r1
    cases ea : seqD a with
    | none => simp only [ea] at g1; exact g1.elim
    | some xs =>
      cases eb : seqD b with
      | none => simp only [ea, eb] at g1; exact g1.elim
      | some ys =>
        simp only [ea, eb] at g1
        obtain ⟨k1, p1, ws, rfl, h1, q1⟩ := seqD_rep rv ea
        obtain ⟨k2, p2, zs, rfl, h2, q2⟩ := seqD_rep ru eb
        exact ⟨k1, k2, p1, p2, ws, zs, rfl, SqKm S1.sub h1, SqKm S1.sub h2, g1 H1 F1 S1 Sm.refl _ (okZK h1 q1 h2 q2)⟩
  · exact g1.elim
end
end Mr
namespace Mr
open PySem PySem.Spec PyProof.Rows L2
variable [Lam] [Pins]
section
variable {X : Cx} {W : WX} {pos : Pos}
def listRgD : D → FR D
  | .int n => if I62 n ∧ n.toNat ≤ sizeLine then .ok (.lst ((List.range n.toNat).map fun (k : Nat) => .int k)) else .stuck
  | _ => .stuck
theorem rgV_reps {K : PySem.W.Frag} {H : Hp} (n : Int) : Reps K H (rgV 0 n) ((List.range n.toNat).map fun (k : Nat) => D.int k) := by
  unfold rgV
  rw [show (n - 0).toNat = n.toNat by simp]
  generalize List.range n.toNat = l
  induction l with
  | nil => exact .nil
  | cons i l ih =>
    rw [List.map_cons, List.map_cons]
    refine .cons ?_ ih
    rw [show (0 : Int) + (i : Int) = i by simp]
    exact .int _
theorem AE.listRg {e : Expr} {f : M D} {p p' pos' : Pos} (hc : X.calm = true) (hg : Gl X "list") (hm : X.mg "list" = none) (hg2 : Gl X "range") (hm2 : X.mg "range" = none) (ha : AE X W e f)
    (he : starEach [e] X.env = (false, eval e X.env) :: starEach [] X.env := by rfl)
    (he2 : starEach [.Call (.Name "range" p') [e] [] pos'] X.env = (false, eval (.Call (.Name "range" p') [e] [] pos') X.env) :: starEach [] X.env := by rfl) :
    AE X W (.Call (.Name "list" p) [.Call (.Name "range" p') [e] [] pos'] [] pos) (m1 listRgD f) := by
  obtain ⟨t, pa, qa⟩ := ha
  refine ⟨_, pe_listRg hc hg hm (prg_1 hg2 hm2 pa he) he2, fun G σ H F ρ Q S hgd => qa G σ H F ρ _ S (hgd.bind fun d ρ1 H1 F1 S1 s1 g1 v r => ?_)⟩
  unfold listRgD at g1
  split at g1
  · split at g1
    · rename_i n hz
      cases r
      refine ⟨n, rfl, ⟨by decide, by decide, hz.1.1, hz.1.2, ?_⟩, fun q hq => newLst S1 (rgV_reps n) g1 hq⟩
      have := hz.2
      rw [show (n - 0).toNat = n.toNat by simp]
      exact this
    · exact g1.elim
  · exact g1.elim
end
instance (priority := low) lam0 : Lam := ⟨fun _ => []⟩
end Mr
namespace Mr
open PySem PySem.Spec PyProof.Rows L2
section
variable [Lam] [Pins]
variable {X : Cx} {W : WX} {pos : Pos}
/-- a list of one's own handed to a def that never looks at it -/
def mAny (j : Nat) : M D := fun ρ => match ρ.getD j .un with
  | .own _ _ => .ok .any ρ
  | _ => .stuck
theorem AE.any {j : Nat} {y : Str} (h : PE X (.Name y pos) (tVar j)) : AE X W (.Name y pos) (mAny j) := by
  refine ⟨_, h, fun G σ H F ρ Q S hg => ?_⟩
  unfold mAny at hg
  split at hg
  · rename_i p xs e
    obtain ⟨a, vs, e1, _⟩ := own_at S e
    exact ⟨_, e1, hg H F S Sm.refl _ (.any _ fun z => by cases z)⟩
  · exact hg.elim
structure WdF (w : World) (K : PySem.W.Frag) (mg : Str → Option Value) (x : Str) (kvs : List (Str × Option Str)) : Prop where
  m : mg x = some (.ref (He.ga K x))
  d : ∃ es n, KDict K w (He.ga K x) es n
  at_ : ∀ kv ∈ kvs, ∃ r, PySem.W.nsIn K (He.ga K x) kv.1 = some r ∧ r.isSome = kv.2.isSome ∧ ∀ y, kv.2 = some y → ∃ t, r = some (.str y t)
variable {e : Expr} {fe : M D} {x : Str} {kvs : List (Str × Option Str)} {p : Pos}
def strD : List D → FR D
  | [.int i] => if i.natAbs.log2 < 1920 then .ok (.str (Str.ofString (toString i))) else .stuck
  | _ => .stuck
theorem CA.str : CA X W (.type "str") strD := by
  refine ⟨_, call_str_int, fun G σ H F ρ vs ds Q S r hg => ?_⟩
  unfold strD at hg
  split at hg
  · split at hg
    · rename_i h
      obtain ⟨v, rfl, rv⟩ := reps1 r
      cases rv
      exact ⟨_, rfl, h, hg H F S Sm.refl _ (.str _)⟩
    · exact hg.elim
  · exact hg.elim
def txtsD : List D → Option (List Str)
  | [] => some []
  | .str x :: r => (txtsD r).map (x :: ·)
  | _ :: _ => none
theorem txtsD_reps {K : PySem.W.Frag} {H : Hp} : ∀ {vs : List V} {ds : List D} {ys : List Str}, Reps K H vs ds → txtsD ds = some ys → vs = ys.map V.str
  | _, _, _, .nil, h => by cases h; rfl
  | _, _, _, .cons r t, h => by
    cases r with
    | str x =>
      unfold txtsD at h
      cases e : txtsD _ with
      | none => rw [e] at h; cases h
      | some zs =>
        rw [e] at h
        cases h
        rw [txtsD_reps t e]; rfl
    | _ => cases h
def joinOf (a : Str) (ds : List D) : FR D := match txtsD ds with
  | some ys => if (ys.map (·.length)).sum + ys.length * a.length ≤ 16777216 then .ok (.str (Txt.join a ys)) else .stuck
  | none => .stuck
def joinD (a : Str) : D → FR D
  | .lst ds => joinOf a ds
  | .tup ds => joinOf a ds
  | _ => .stuck
def mJoin (fo fe : M D) : M D := fun ρ => (fo ρ).bind fun d ρ => match d with
  | .str a => (fe ρ).bind fun x ρ => (joinD a x).lift ρ
  | _ => .stuck
theorem AE.join {o : Expr} {fo : M D} {apos : Pos} (ho : AE X W o fo) (he : AE X W e fe) (hs : starEach [e] X.env = [(false, eval e X.env)] := by rfl) (hbase : attributeBase o "join" X.env (eval o X.env) = eval o X.env := by rfl) (hline : (apos.endLine == pos.line) = true := by rfl) :
    AE X W (.Call (.Attribute o "join" apos) [e] [] pos) (mJoin fo fe) := by
  obtain ⟨to, po, qo⟩ := ho
  obtain ⟨te, pe, qe⟩ := he
  refine ⟨_, pe_join po pe hs hbase hline, fun G σ H F ρ Q S hg => qo G σ H F ρ _ S (hg.bind fun d ρ1 H1 F1 S1 s1 g1 v r1 => ?_)⟩
  cases r1 with
  | str a =>
    refine ⟨⟨a, rfl⟩, qe G σ H1 F1 ρ1 _ S1 (g1.bind fun d2 ρ2 H2 F2 S2 s2 g2 u r2 => ?_)⟩
    have fin : ∀ {ds : List D} {vs : List V} {q : Addr}, u = .ref q → (SqL X.K H2 q vs ∨ SqT X.K H2 q vs) → Reps X.K F2 vs ds → joinD a d2 = joinOf a ds → ∃ a' p, ∃ ys : List Str, V.str a = .str a' ∧ [u] = [.ref p] ∧ (SqL X.K H2 p (ys.map V.str) ∨ SqT X.K H2 p (ys.map V.str)) ∧ (ys.map (·.length)).sum + ys.length * a'.length ≤ 16777216 ∧ Q (.str (Txt.join a' ys)) H2 := fun {ds vs q} eu hs rs ej => by
      rw [ej] at g2
      unfold joinOf at g2
      cases es : txtsD ds with
      | none => simp only [es] at g2; exact g2.elim
      | some ys =>
        simp only [es] at g2
        have ev := txtsD_reps rs es
        subst ev eu
        split at g2
        · rename_i hz
          exact ⟨a, q, ys, rfl, rfl, hs, hz, g2 H2 F2 S2 Sm.refl _ (.str _)⟩
        · exact g2.elim
    cases r2 with
    | lst hx rx => exact fin rfl (.inl (.of (S2.sub _ _ hx))) rx rfl
    | tup hx rx => exact fin rfl (.inr (SqTm S2.sub hx)) rx rfl
    | _ => exact g2.elim
  | _ => exact g1.elim
end
end Mr
namespace Mr
open PySem PySem.Spec PyProof.Rows L2
/-- a clause: its class, its name's slot, its suite -/
abbrev ClW : Type := Value × Option Nat × (Addr → Value → Option Addr → TS)
/-- where a suite that has a name ends -/
def offEnds (i : Nat) (D : Ends) : Ends where
  nx := fun τ H => D.nx (τ.set i none) H
  rt := D.rt
  bk := fun τ H => D.bk (τ.set i none) H
  ct := fun τ H => D.ct (τ.set i none) H
/-- what the clauses ask of an exception -/
def askM (K : PySem.W.Frag) (Wo : WX) (D : Ends) : List ClW → WX
  | [] => Wo
  | (c, none, ts) :: r => fun k d τ H => ∃ b, PySem.W.exmOne K k c = some b ∧ (b = true → ∀ a, H a = none → ts a k d D τ H) ∧ (b = false → askM K Wo D r k d τ H)
  | (c, some i, ts) :: r => fun k d τ H => ∃ b, PySem.W.exmOne K k c = some b ∧ (b = true → ∀ a, H a = none → ts a k d (offEnds i D) (τ.set i (some (.ref a))) H) ∧ (b = false → askM K Wo D r k d τ H)
/-- a suite in its context -/
def SuiteOk (X : Cx) (ss : List Stmt) (ts : Addr → Value → Option Addr → TS) : Prop := ∀ (a : Addr) (oe : Obj) (k : Value) (d : Option Addr) (pn : List (Addr × Obj)), Zc k d oe → (∃ vs, oe.data = .fields vs) → PSs (X.suite a ((a, oe) :: pn)) ss (ts a k d)
inductive ClsM (X : Cx) : List ExceptHandler → List ClW → Prop
  | nil : ClsM X [] []
  | one {x : Str} {c : Value} {ts : Addr → Value → Option Addr → TS} {s0 : Stmt} {ss : List Stmt} {np hp : Pos} {hs : List ExceptHandler} {l : List ClW} (hc : Names X x c) (ok : SuiteOk X (s0 :: ss) ts) (r : ClsM X hs l) : ClsM X (.ExceptHandler (some (.Name x np)) none (s0 :: ss) hp :: hs) ((c, none, ts) :: l)
  | named {x n : Str} {c : Value} {i : Nat} {ts : Addr → Value → Option Addr → TS} {s0 : Stmt} {ss : List Stmt} {np hp : Pos} {hs : List ExceptHandler} {l : List ClW} (hN : X.N.Nodup) (hi : X.N[i]? = some n) (hl : X.env.kindOf n = some .local) (hc : Names X x c) (ok : SuiteOk X (s0 :: ss) ts) (r : ClsM X hs l) :
      ClsM X (.ExceptHandler (some (.Name x np)) (some n) (s0 :: ss) hp :: hs) ((c, some i, ts) :: l)
section
variable {X : Cx} {body : List Stmt} {e0 : ExceptHandler} {es : List ExceptHandler} {l : List ClW} {pos : Pos} {tb : WX → TS} {Wo : WX}
/-- the name of a clause's class, read -/
theorem cls_read {x : Str} {c : Value} {np : Pos} {pins : List (Addr × Obj)} {a : Addr} {oe : Obj} {τ : L2.St} {H : Hp} {s : Shared} {Q E : Value → Shared → Prop} (hc : Names X x c) (I : Inv (X.suite a ((a, oe) :: (X.pn ++ pins))) [] τ H s) (q : Q c s) :
    wpAny (model X.prog X.w) (X.A.mark (some (.ref a))) (eval (.Name x np) X.env) Q E s := by
  obtain ⟨g, nd, k | ⟨k, v, ne⟩⟩ := hc
  · exact ld_glob (X := X.suite a ((a, oe) :: (X.pn ++ pins))) I g k q nd
  · exact ld_blt (X := X.suite a ((a, oe) :: (X.pn ++ pins))) I g k v q ne nd
theorem ps_tryM (hst : X.stack = X.env :: X.outer) (hfl : X.env.frame = some X.env.locals) (tk : Takes X Wo)
    (hb : ∀ (W : WX) (pn : List (Addr × Obj)) (xe : Value → Shared → Prop), Takes (X.tr pn xe) W → PassesOwn (model X.prog X.w) X.A X.env xe → PSs (X.tr pn xe) body (tb W)) (hh : ClsM X (e0 :: es) l) :
    PS X (.Try body (e0 :: es) [] [] pos) (fun D τ H => tb (askM X.K Wo D l) D τ H) := by
  refine ⟨fun pins s τ H D I h => wpAny_Try_except ?_⟩
  have okX := I.ok
  have hA : X.A.frames = some (X.env :: X.outer) := okX.frames.trans (congrArg some hst)
  let xe : Value → Shared → Prop := fun u t => wpAny (model X.prog X.w) X.A (noteFrame u X.env) (fun _ t1 => wpAny (model X.prog X.w) X.A (setFlight u none) (fun _ t2 => wpAny (model X.prog X.w) X.A (handleBy u X.env (e0 :: es)) (SP X pins D) X.xe t2) X.xe t1) X.xe t
  have tkB : Takes (X.tr (X.pn ++ pins) xe) (askM X.K Wo D l) := fun u t xx => by
    obtain ⟨a, B, s1, pins1, τ1, H1, k, d, rfl, IB, nb, upS, sky, na, os, ag, w⟩ := xx
    have J := IB.ofTry okX
    have skyT : Sky B (X.env :: X.outer) a (Zc k d) X.env.locals t.heap := hst ▸ sky
    show wpAny (model X.prog X.w) X.A (noteFrame (.ref a) X.env) _ _ _
    refine Sky.land Zc.steady hA hfl skyT fun g fly upG => ?_
    have JG : Inv X pins τ1 H1 { t with heap := g } := J.landed nb fly.1 (upS.trans upG) os ag
    obtain ⟨oG, vG, atG, zG, dG⟩ := fly.there
    have out : a ∉ frs (X.env :: X.outer) := fun hm => by
      obtain ⟨_, o2, e2, hn⟩ := fly.2.2.1.mem hm
      rw [atG] at e2; cases e2
      exact hn _ dG
    have nL : a ≠ X.env.locals := fun z => out (List.mem_filterMap.mpr ⟨X.env, List.mem_cons_self, hfl.trans (congrArg some z.symm)⟩)
    have nF : a ∉ X.fs := fun hm => by
      obtain ⟨v, hv, q⟩ := List.mem_filterMap.mp hm
      exact out (List.mem_filterMap.mpr ⟨v, List.mem_cons_of_mem _ hv, q⟩)
    have IG := JG.suite atG dG na nL nF
    have look : PySem.W.Looks (model X.prog X.w) g (typeOf (.ref a)) k := fun A Q E s k' q => wpAny_typeOf_ref (k' _ _ atG) (zG.1.symm ▸ q)
    have go : ∀ {hs : List ExceptHandler} {r : List ClW}, ClsM X hs r → askM X.K Wo D r k d τ1 H1 → wpAny (model X.prog X.w) X.A (handleBy (.ref a) X.env hs) (SP X pins D) X.xe { t with heap := g } := by
      intro hs r hk
      induction hk with
      | nil =>
        intro w
        refine wpAny_handleBy_nil ?_
        obtain ⟨_, _, _, oe, vs, T, _, _, at1, _, dat, v1, _⟩ := id fly
        unfold PySem.passOn
        refine wpAny_bind (wpAny_field at1 dat v1 ?_)
        rw [if_neg (by simp : ¬ ((Value.ref T == Value.none) = true))]
        have up : wpAny (model X.prog X.w) X.A (setFlight (.ref a) X.env.frame) (fun _ t4 => wpAny (model X.prog X.w) X.A (throw (.ref a) : Sem Flow) (SP X pins D) X.xe t4) X.xe { t with heap := g } := by
          rw [hfl]
          refine HandSPX.setFlight_upZ fly fun g2 held upH => wpAny_throw (tk _ _ ?_)
          exact ⟨a, B, s1, pins, τ1, H1, k, d, rfl, J, nb, (upS.trans upG).trans upH, .inr (.inr (hst ▸ held)), na, os, ag, w⟩
        first
          | exact wpAny_bind (wpAny_pure (wpAny_bind up))
          | exact wpAny_bind up
      | @one x c ts s0 ss np hp hs2 l2 hc ok r2 ih =>
        rintro ⟨b, hm, yes, no⟩
        refine wpAny_handleBy_cons (codeAny_handlers_test ?_) (by intro q; cases q)
        refine cls_read hc IG ((PySem.W.exm_one (M := model X.prog X.w) JG.kIn look hm).here ?_)
        cases b with
        | false => exact ih (no rfl)
        | true =>
          refine codeAny_handlers_suite (HandSPX.lands_againZ fly fun g2 fly2 up2 => ?_)
          have J2 : Inv X pins τ1 H1 { t with heap := g2 } := J.landed nb fly2.1 ((upS.trans upG).trans up2) os ag
          obtain ⟨o2, v2, at2, z2, d2⟩ := fly2.there
          refine wpAny_mono ((ok a o2 k d (X.pn ++ pins) z2 ⟨_, d2⟩).run [] _ _ H1 _ (J2.suite at2 d2 na nL nF) (yes rfl a na)) (fun fl t6 hsp => ?_) (fun _ _ z => False.elim z)
          cases fl with
          | next => exact let ⟨σ6, H6, S6, q6⟩ := hsp; ⟨σ6, H6, S6.unsuite okX, q6⟩
          | brk => exact let ⟨σ6, H6, S6, q6⟩ := hsp; ⟨σ6, H6, S6.unsuite okX, q6⟩
          | cont => exact let ⟨σ6, H6, S6, q6⟩ := hsp; ⟨σ6, H6, S6.unsuite okX, q6⟩
          | ret u => exact let ⟨v6, σ6, H6, S6, r6, q6⟩ := hsp; ⟨v6, σ6, H6, S6.unsuite okX, r6, q6⟩
      | @named x n c i ts s0 ss np hp hs2 l2 hN hi hl hc ok r2 ih =>
        rintro ⟨b, hm, yes, no⟩
        refine wpAny_handleBy_cons (codeAny_handlers_test ?_) (by intro q; cases q)
        refine cls_read hc IG ((PySem.W.exm_one (M := model X.prog X.w) JG.kIn look hm).here ?_)
        cases b with
        | false => exact ih (no rfl)
        | true =>
          refine codeAny_handlers_suite_as (HandSPX.lands_againZ fly fun g2 fly2 up2 => ?_)
          have J2 : Inv X pins τ1 H1 { t with heap := g2 } := J.landed nb fly2.1 ((upS.trans upG).trans up2) os ag
          obtain ⟨o2, v2, at2, z2, d2⟩ := fly2.there
          refine store_ok (X := X.suite a ((a, o2) :: (X.pn ++ pins))) (v := .ref a) (J2.suite at2 d2 na nL nF) hN hi (.inl hl) rfl (fun t5 S5 => ?_) (.inr hl)
          refine wpAny_mono ((ok a o2 k d (X.pn ++ pins) z2 ⟨_, d2⟩).run [] t5 _ H1 _ S5 (yes rfl a na)) (fun fl t6 hsp => ?_) (fun _ _ z => False.elim z)
          have off : ∀ {τ6 : L2.St} {H6 : Hp} {Q : Shared → Prop}, Inv (X.suite a ((a, o2) :: (X.pn ++ pins))) [] τ6 H6 t6 → (∀ t7, Inv X pins (τ6.set i none) H6 t7 → Q t7) →
              wpAny (model X.prog X.w) X.A (do bindName X.env n .none; unbindBehindTheSuite X.env n hp) (fun _ t7 => Q t7) X.xe t6 := fun S6 hq => gone_ok (S6.unsuite okX) hN hi hl hq
          cases fl with
          | next => exact let ⟨_, _, S6, q6⟩ := hsp; off S6 fun t7 J7 => ⟨_, _, J7, q6⟩
          | brk => exact let ⟨_, _, S6, q6⟩ := hsp; off S6 fun t7 J7 => ⟨_, _, J7, q6⟩
          | cont => exact let ⟨_, _, S6, q6⟩ := hsp; off S6 fun t7 J7 => ⟨_, _, J7, q6⟩
          | ret u => exact let ⟨_, _, _, S6, r6, q6⟩ := hsp; off S6 fun t7 J7 => ⟨_, _, _, J7, r6, q6⟩
    exact go hh w
  refine wpAny_mono ((hb (askM X.K Wo D l) (X.pn ++ pins) xe tkB PassesOwn.looking).run [] s τ H D (I.toTry _) h) (fun fl t1 hsp => ?_) (fun u t1 hu => hu)
  cases fl with
  | next => exact let ⟨σ6, H6, J6, q6⟩ := hsp; wpAny_execs_nil ⟨σ6, H6, J6.ofTry okX, q6⟩
  | brk => exact let ⟨σ6, H6, J6, q6⟩ := hsp; ⟨σ6, H6, J6.ofTry okX, q6⟩
  | cont => exact let ⟨σ6, H6, J6, q6⟩ := hsp; ⟨σ6, H6, J6.ofTry okX, q6⟩
  | ret u => exact let ⟨v6, σ6, H6, J6, r6, q6⟩ := hsp; ⟨v6, σ6, H6, J6.ofTry okX, r6, q6⟩
end
/-- which classes a clause catches; its name's slot; what its suite does with the exception -/
structure HdM where
  ts : List (Str × Bool)
  sl : Option Nat
  g : Ex → M Fl
def clsT (ts : List (Str × Bool)) : Cn → Option Bool
  | .own c => ts.lookup c
  | .bi _ => none
def offR (i : Nat) (r : R Fl) : R Fl := match r with
  | .ok (.rt d) ρ => .ok (.rt d) (ρ.set i .un)
  | .ok .nx ρ => .ok .nx (ρ.set i .un)
  | _ => .stuck
def hdsM : List HdM → Ex → M Fl
  | [], x => fun ρ => .exc x ρ
  | h :: r, x => fun ρ => match clsT h.ts x.c with
    | some true => (match h.sl with
      | none => (match h.g x ρ with
        | .exc _ _ => .stuck
        | y => y)
      | some i => if (ρ.getD i .un).isIo = true ∨ ρ.length ≤ i then .stuck else offR i (h.g x (ρ.set i .pin)))
    | some false => hdsM r x ρ
    | none => .stuck
/-- try: g, the clauses hs -/
def xTry (g : M Fl) (hs : List HdM) : M Fl := fun ρ => match g ρ with
  | .exc x ρ' => hdsM hs x ρ'
  | r => r
/-- the read of a field of the exception that a clause names -/
def mErrF (j : Nat) (x : Ex) (f : Str) : M D := fun ρ => match ρ.getD j .un with
  | .pin => (match x.fs.lookup f with
    | some d => .ok d ρ
    | none => .stuck)
  | _ => .stuck
section
variable [Lam] [P0 : Pins]
variable {K : PySem.W.Frag} {G : Ent} {σ : L2.St} {H F : Hp} {ρ : Ro} {i : Nat} {v : V}
/-- a slot is stored to; the context knows its value -/
theorem Stt.pinIn (S : Stt K G σ H F ρ) (hio : (ρ.getD i .un).isIo = false) (hl : i < ρ.length) : @Stt _ ⟨(i, v) :: P0.pv, F⟩ K G (σ.set i (some v)) H F (ρ.set i .pin) := by
  have S1 := S.drop (i := i) (v := some v) hio
  have g1 : ∀ j, (ρ.set i .pin).getD j .un = if i = j then .pin else (ρ.set i .un).getD j .un := fun j => by
    rw [getD_set, getD_set]
    by_cases c : i = j
    · subst c; simp [hl]
    · simp [c]
  have own : ∀ j, ((ρ.set i .pin).getD j .un).isOwn = true → ((ρ.set i .un).getD j .un).isOwn = true ∧ (ρ.set i .pin).getD j .un = (ρ.set i .un).getD j .un := fun j h => by
    rw [g1] at h ⊢
    split at h
    · cases h
    · rename_i c; rw [if_neg c]; exact ⟨h, rfl⟩
  refine @Stt.mk _ ⟨(i, v) :: P0.pv, F⟩ _ _ _ _ _ _ S1.sub S1.ft S1.tb S1.same S1.ext S1.new (by simpa using S1.len) (fun j => ?_) (fun j k a h1 h2 => S1.dis j k a (own j h1).1 (own k h2).1) (fun j a h1 => S1.fresh j a (own j h1).1) (fun j a hj => ?_) (fun p hp => ?_) S1.xx S1.xtd (fun j w hj => ?_) Sm.refl
  · rw [g1]
    split
    · trivial
    · exact S1.at_ j
  · obtain ⟨e1, e2⟩ := S1.io j a hj
    refine ⟨e1, ?_⟩
    rw [g1]
    split
    · rename_i c
      subst c
      rw [getD_set] at e2
      rw [if_pos ⟨rfl, hl⟩] at e2
      cases e2
    · exact e2
  · obtain ⟨e1, e2, e3, e4⟩ := S1.xt p hp
    exact ⟨e1, e2, e3, fun j h => e4 j (own j h).1⟩
  · rcases List.mem_cons.mp hj with e | hj
    · cases e
      exact ⟨List.getElem?_set_self (by rw [← S.len]; exact hl), by rw [g1, if_pos rfl]⟩
    · obtain ⟨e1, e2⟩ := S.pin j w hj
      have ne : i ≠ j := fun e => by subst e; rw [e2] at hio; cases hio
      exact ⟨by rw [List.getElem?_set_ne ne]; exact e1, by rw [g1, if_neg ne, getD_set, if_neg (fun c => ne c.1)]; exact e2⟩
/-- .. and forgotten -/
theorem Stt.pinOff {σ' : L2.St} {H' F' : Hp} {ρ' : Ro} (S : Stt K G σ H F ρ) (hio : (ρ.getD i .un).isIo = false) (hl : i < ρ.length) (S' : @Stt _ ⟨(i, v) :: P0.pv, F⟩ K G σ' H' F' ρ') : Stt K G (σ'.set i none) H' F' (ρ'.set i .un) := by
  obtain ⟨k1, k2, k3, k4, k5, k6, kl, kat, kdis, kfr, kio, kxt, kxx, kxd, kpin, kpf⟩ := S'
  have pi : ρ'.getD i .un = .pin := (kpin i v (List.mem_cons_self ..)).2
  have g1 : ∀ j, (ρ'.set i .un).getD j .un = if i = j then .un else ρ'.getD j .un := fun j => by
    rw [getD_set]
    by_cases c : i = j
    · subst c
      by_cases d : i < ρ'.length
      · simp [d]
      · exfalso
        rw [List.getD_eq_getElem?_getD, List.getElem?_eq_none (by omega)] at pi
        cases pi
    · simp [c]
  have own : ∀ j, ((ρ'.set i .un).getD j .un).isOwn = true → i ≠ j ∧ (ρ'.getD j .un).isOwn = true := fun j h => by
    rw [g1] at h
    split at h
    · cases h
    · rename_i c; exact ⟨c, h⟩
  have get : ∀ {j}, i ≠ j → (σ'.set i none)[j]? = σ'[j]? := fun {j} ne => List.getElem?_set_ne ne
  refine ⟨k1, k2, k3, k4, k5, k6, by simp [kl], fun j => ?_, fun j k a h1 h2 e1 e2 => ?_, fun j a h1 e1 => ?_, fun j a hj => ?_, fun p hp => ?_, kxx, kxd, fun j w hj => ?_, S.pf.tr kpf⟩
  · rw [g1]
    split
    · trivial
    · rename_i c; rw [get c]; exact kat j
  · obtain ⟨n1, o1⟩ := own j h1
    obtain ⟨n2, o2⟩ := own k h2
    rw [get n1] at e1
    rw [get n2] at e2
    exact kdis j k a o1 o2 e1 e2
  · obtain ⟨n1, o1⟩ := own j h1
    rw [get n1] at e1
    exact kfr j a o1 e1
  · obtain ⟨e1, e2⟩ := kio j a hj
    have ne : i ≠ j := fun e => by subst e; rw [pi] at e2; cases e2
    rw [get ne, g1, if_neg ne]
    exact ⟨e1, e2⟩
  · obtain ⟨e1, e2, e3, e4⟩ := kxt p hp
    refine ⟨e1, e2, e3, fun j h => ?_⟩
    obtain ⟨n1, o1⟩ := own j h
    rw [get n1]
    exact e4 j o1
  · have ne : i ≠ j := fun e => by
      subst e
      obtain ⟨_, e2⟩ := S.pin i w hj
      rw [e2] at hio; cases hio
    obtain ⟨e1, e2⟩ := kpin j w (List.mem_cons_of_mem _ hj)
    rw [get ne, g1, if_neg ne]
    exact ⟨e1, e2⟩
/-- the clauses do what they do -/
inductive AHs (X : Cx) : List ExceptHandler → List HdM → Prop
  | nil : AHs X [] []
  | one {x C : Str} {ts : List (Str × Bool)} {g : Ex → M Fl} {s0 : Stmt} {ss : List Stmt} {np hp : Pos} {hs : List ExceptHandler} {l : List HdM} (hc : Names X x (.ref (He.ga X.K C))) (ht : ∀ q ∈ ts, PySem.W.exmOne X.K (.ref (He.ga X.K q.1)) (.ref (He.ga X.K C)) = some q.2)
      (ok : ∀ (y : Ex) (a : Addr) (oe : Obj) (d : Option Addr) (pn : List (Addr × Obj)), Zc (y.c.v X.K) d oe → (∃ vs, oe.data = .fields vs) → clsT ts y.c = some true → AB (X.suite a ((a, oe) :: pn)) W0 (s0 :: ss) (g y)) (r : AHs X hs l) :
      AHs X (.ExceptHandler (some (.Name x np)) none (s0 :: ss) hp :: hs) (⟨ts, none, g⟩ :: l)
  | named {x n C : Str} {i : Nat} {ts : List (Str × Bool)} {g : Ex → M Fl} {s0 : Stmt} {ss : List Stmt} {np hp : Pos} {hs : List ExceptHandler} {l : List HdM} (hN : X.N.Nodup) (hi : X.N[i]? = some n) (hl : X.env.kindOf n = some .local) (hc : Names X x (.ref (He.ga X.K C))) (ht : ∀ q ∈ ts, PySem.W.exmOne X.K (.ref (He.ga X.K q.1)) (.ref (He.ga X.K C)) = some q.2)
      (ok : ∀ (y : Ex) (a : Addr) (oe : Obj) (d : Option Addr) (pn : List (Addr × Obj)) (F : Hp), Zc (y.c.v X.K) d oe → (∃ vs, oe.data = .fields vs) → clsT ts y.c = some true → ExcAt X.K F d y.fs → @AB _ ⟨(i, .ref a) :: P0.pv, F⟩ (X.suite a ((a, oe) :: pn)) W0 (s0 :: ss) (g y)) (r : AHs X hs l) :
      AHs X (.ExceptHandler (some (.Name x np)) (some n) (s0 :: ss) hp :: hs) (⟨ts, some i, g⟩ :: l)
/-- a suite's reading, whatever the exception's object is -/
def anyTs (X : Cx) (ss : List Stmt) : Addr → Value → Option Addr → TS := fun a k d D σ H => ∃ t : TS, (∀ (oe : Obj) (pn : List (Addr × Obj)), Zc k d oe → (∃ vs, oe.data = .fields vs) → PSs (X.suite a ((a, oe) :: pn)) ss t) ∧ t D σ H
theorem anyTs_ok {X : Cx} {ss : List Stmt} : SuiteOk X ss (anyTs X ss) := fun a oe k d pn hz hf => ⟨fun pins s σ H D I h => by
  obtain ⟨t, ht, h'⟩ := h
  exact (ht oe pn hz hf).run pins s σ H D I h'⟩
theorem clsT_true {ts : List (Str × Bool)} {c : Cn} {b : Bool} (h : clsT ts c = some b) : ∃ x, c = .own x ∧ (x, b) ∈ ts := by
  cases c with
  | own x => exact ⟨x, rfl, lookup_mem h⟩
  | bi x => cases h
theorem AHs.asks {X : Cx} : ∀ {hs : List ExceptHandler} {l : List HdM}, AHs X hs l → ∃ lw, ClsM X hs lw ∧ ∀ (G : Ent) (W : WX) (σ : L2.St) (H F : Hp) (ρ : Ro) (y : Ex) (d : Option Addr) (Dn : Ends),
    Stt X.K G σ H F ρ → ExcAt X.K F d y.fs → GoodS X.K G W F (hdsM l y ρ) Dn → askM X.K W Dn lw (y.c.v X.K) d σ H := by
  intro hs l h
  induction h with
  | nil => exact ⟨[], .nil, fun G W σ H F ρ y d Dn S hx hg => hg d σ H F S Sm.refl hx⟩
  | @one x C ts g s0 ss np hp hs l hc ht ok r ih =>
    obtain ⟨lw, h1, h2⟩ := ih
    refine ⟨(_, none, anyTs X (s0 :: ss)) :: lw, .one hc anyTs_ok h1, fun G W σ H F ρ y d Dn S hx hg => ?_⟩
    unfold hdsM at hg
    cases ec : clsT ts y.c with
    | none => simp only [ec] at hg; exact hg.elim
    | some b =>
      obtain ⟨c, e1, e2⟩ := clsT_true ec
      have hm := ht _ e2
      refine ⟨b, by rw [e1]; exact hm, fun hb a na => ?_, fun hb => ?_⟩
      · subst hb
        simp only [ec] at hg
        have key := fun (oe : Obj) (pn : List (Addr × Obj)) (hz : Zc (y.c.v X.K) d oe) (hf : ∃ vs, oe.data = .fields vs) => ok y a oe d pn hz hf ec
        refine ⟨fun D σ H => ∀ oe pn hz hf, (Classical.choose (key oe pn hz hf)) D σ H, fun oe pn hz hf => ⟨fun pins s σ H D I h => (Classical.choose_spec (key oe pn hz hf)).1.run pins s σ H D I (h oe pn hz hf)⟩, fun oe pn hz hf => ?_⟩
        refine (Classical.choose_spec (key oe pn hz hf)).2 G σ H F ρ Dn S ?_
        cases eg : g y ρ with
        | ok f ρ1 =>
          simp only [eg] at hg
          cases f <;> exact hg
        | exc _ _ => simp only [eg] at hg; exact hg.elim
        | stuck => simp only [eg] at hg; exact hg.elim
      · subst hb
        simp only [ec] at hg
        exact h2 G W σ H F ρ y d Dn S hx hg
  | @named x n C i ts g s0 ss np hp hs l hN hi hl hc ht ok r ih =>
    obtain ⟨lw, h1, h2⟩ := ih
    refine ⟨(_, some i, anyTs X (s0 :: ss)) :: lw, .named hN hi hl hc anyTs_ok h1, fun G W σ H F ρ y d Dn S hx hg => ?_⟩
    unfold hdsM at hg
    cases ec : clsT ts y.c with
    | none => simp only [ec] at hg; exact hg.elim
    | some b =>
      obtain ⟨c, e1, e2⟩ := clsT_true ec
      have hm := ht _ e2
      refine ⟨b, by rw [e1]; exact hm, fun hb a na => ?_, fun hb => ?_⟩
      · subst hb
        simp only [ec] at hg
        split at hg
        · exact hg.elim
        · rename_i hz0
          have hio : (ρ.getD i .un).isIo = false := by
            cases q : (ρ.getD i .un).isIo with
            | false => rfl
            | true => exact absurd (.inl q) hz0
          have hlt : i < ρ.length := Nat.lt_of_not_le fun z => hz0 (.inr z)
          have key := fun (oe : Obj) (pn : List (Addr × Obj)) (hz : Zc (y.c.v X.K) d oe) (hf : ∃ vs, oe.data = .fields vs) => ok y a oe d pn F hz hf ec hx
          refine ⟨fun D σ H => ∀ oe pn hz hf, (Classical.choose (key oe pn hz hf)) D σ H, fun oe pn hz hf => ⟨fun pins s σ H D I h => (Classical.choose_spec (key oe pn hz hf)).1.run pins s σ H D I (h oe pn hz hf)⟩, fun oe pn hz hf => ?_⟩
          refine (Classical.choose_spec (key oe pn hz hf)).2 G _ H F (ρ.set i .pin) _ (S.pinIn (v := .ref a) hio hlt) ?_
          cases eg : g y (ρ.set i .pin) with
          | ok f ρ1 =>
            simp only [eg] at hg
            cases f with
            | nx => exact fun σ' H' F' S' s' => hg _ H' F' (S.pinOff hio hlt S') s'
            | rt w => exact fun v σ' H' F' S' s' rv => hg v _ H' F' (S.pinOff hio hlt S') s' rv
            | rn _ => exact hg.elim
            | bk => exact hg.elim
            | ct => exact hg.elim
          | exc _ _ => simp only [eg] at hg; exact hg.elim
          | stuck => simp only [eg] at hg; exact hg.elim
      · subst hb
        simp only [ec] at hg
        exact h2 G W σ H F ρ y d Dn S hx hg
/-- try .. except .. -/
theorem AS.try_ {X : Cx} {W : WX} {body : List Stmt} {e0 : ExceptHandler} {es : List ExceptHandler} {g : M Fl} {l : List HdM} {pos : Pos} (hst : X.stack = X.env :: X.outer) (hfl : X.env.frame = some X.env.locals) (tk : Takes X W)
    (hb : ∀ (W' : WX) (pn : List (Addr × Obj)) (xe : Value → Shared → Prop), Takes (X.tr pn xe) W' → PassesOwn (model X.prog X.w) X.A X.env xe → AB (X.tr pn xe) W' body g) (hh : AHs X (e0 :: es) l) : AS X W (.Try body (e0 :: es) [] [] pos) (xTry g l) := by
  obtain ⟨lw, h1, h2⟩ := hh.asks
  let tb : WX → TS := fun W' D σ H => ∀ pn xe tk po, (Classical.choose (hb W' pn xe tk po)) D σ H
  refine ⟨_, ps_tryM (tb := tb) hst hfl tk (fun W' pn xe tk' po => ⟨fun pins s σ H D I h => (Classical.choose_spec (hb W' pn xe tk' po)).1.run pins s σ H D I (h pn xe tk' po)⟩) h1, fun G σ H F ρ Dn S hg pn xe tk' po => ?_⟩
  refine (Classical.choose_spec (hb _ pn xe tk' po)).2 G σ H F ρ Dn S ?_
  unfold xTry at hg
  cases eg : g ρ with
  | ok f ρ1 =>
    simp only [eg] at hg
    cases f <;> exact hg
  | exc y ρ1 =>
    simp only [eg] at hg
    exact fun d σ' H' F' S' s' x' => h2 G W σ' H' F' ρ1 y d Dn S' x' (hg.mono s')
  | stuck => simp only [eg] at hg; exact hg.elim
/-- e.f of the exception that a clause names -/
theorem AE.errF {X : Cx} {W : WX} {a : Addr} {oe : Obj} {pn : List (Addr × Obj)} {d : Option Addr} {y : Ex} {C f n : Str} {j : Nat} {p pos : Pos} {ts : List (Str × Bool)} (T : XfC X.K (He.ga X.K C)) (no : PySem.W.findIn X.K (.ref (He.ga X.K C)) f = some none)
    (hz : Zc (y.c.v X.K) d oe) (hf : ∃ vs, oe.data = .fields vs) (hct : clsT ts y.c = some true) (hC : (ts.all fun q => !q.2 || decide (q.1 = C)) = true) (hx : ExcAt X.K Pins.pf d y.fs) (hp : (j, V.ref a) ∈ Pins.pv)
    (hv : PE (X.suite a ((a, oe) :: pn)) (.Name n p) (tVar j)) (hab : attributeBase (.Name n p) f X.env (eval (.Name n p) X.env) = eval (.Name n p) X.env := by rfl) : AE (X.suite a ((a, oe) :: pn)) W (.Attribute (.Name n p) f pos) (mErrF j y f) := by
  refine ⟨_, pe_xf T no hz hf hv hab, fun G σ H F ρ Q S hg => ?_⟩
  obtain ⟨c, e1, e2⟩ := clsT_true hct
  have ec : c = C := by
    have := List.all_eq_true.mp hC _ e2
    simpa using this
  subst ec
  unfold mErrF at hg
  obtain ⟨s1, s2⟩ := S.pin j _ hp
  rw [s2] at hg
  refine ⟨_, s1, rfl, by rw [e1]; rfl, ?_⟩
  cases el : y.fs.lookup f with
  | none => simp only [el] at hg; exact hg.elim
  | some w =>
    simp only [el] at hg
    rcases hx with ⟨z, _⟩ | ⟨dd, vs, h1, h2, h3⟩
    · rw [z] at el; cases el
    · have key : ∀ {fs : List (Str × D)} {vs : List V}, Reps X.K Pins.pf vs (fs.map (·.2)) → fs.lookup f = some w → ∃ v, ((fs.map (·.1)).zip vs).lookup f = some v ∧ Rep X.K Pins.pf v w := by
        intro fs
        induction fs with
        | nil => intro vs _ h; cases h
        | cons q fs ih =>
          intro vs r h
          cases r with
          | cons r1 r2 =>
            rw [List.map_cons, List.zip_cons_cons, List.lookup_cons]
            rw [List.lookup_cons] at h
            split at h
            · cases h; exact ⟨_, rfl, r1⟩
            · exact ih r2 h
      obtain ⟨v, k1, k2⟩ := key h3 el
      exact ⟨dd, _, v, h1, S.sub _ _ (S.pf _ _ h2), k1, hg H F S Sm.refl _ (k2.mono S.pf)⟩
end
end Mr
namespace Mr
open PySem PySem.Spec PyProof.Rows L2
/-- the call of what a def was handed -/
def mThunk (r : FR D) : M D := fun ρ => match ρ.getD 0 .un with
  | .pin => r.lift ρ
  | _ => .stuck
/-- what a def does with the outcome of the call of its parameter -/
def runT (n : Nat) (g : M Fl) : FR D := match g (.pin :: List.replicate (n - 1) .un) with
  | .ok .nx _ => .ok .non
  | .ok (.rt d) _ => .ok d
  | _ => .stuck
/-- the slots as a lambda sees them: what stands still -/
def stillR (ρ : Ro) : Ro := ρ.map fun sv => match sv with
  | .val d => .val d
  | .pin => .pin
  | _ => .un
def R.toF {α : Type} : R α → FR α
  | .ok a _ => .ok a
  | .exc x _ => .exc x
  | .stuck => .stuck
def mLam (m : FR D → FR D) (f : M D) : M D := fun ρ => (m (f (stillR ρ)).toF).lift ρ
section
variable [Lam] [P0 : Pins]
variable {K : PySem.W.Frag} {G : Ent} {σ : L2.St} {H F H1 F1 : Hp} {ρ : Ro}
theorem getD_still {i : Nat} : (stillR ρ).getD i .un = (match ρ.getD i .un with
  | .val d => .val d
  | .pin => .pin
  | _ => .un) := by
  unfold stillR
  rw [List.getD_eq_getElem?_getD, List.getD_eq_getElem?_getD, List.getElem?_map]
  cases ρ[i]? with
  | none => rfl
  | some sv => rfl
theorem still_own {i : Nat} : ((stillR ρ).getD i .un).isOwn = false := by
  rw [getD_still]
  cases ρ.getD i .un <;> rfl
/-- what stands still, in a later heap -/
theorem Stt.still (S : Stt K G σ H F ρ) (p : Pre K F1 H1) (s : Sm F F1) : Stt K ⟨H1, F1, [], []⟩ σ H1 F1 (stillR ρ) := by
  refine ⟨p.sub, p.ft, p.tb, fun _ _ h _ _ => h, Sm.refl, fun _ _ h => .inl h, by simp [stillR, S.len], fun i => ?_, fun i j a h => ?_, fun i a h => ?_, fun i a h => by simp at h, fun q h => by simp at h, fun q h => by simp at h, .nil, fun i v h => ?_, S.pf.tr s⟩
  · rw [getD_still]
    have q := S.at_ i
    cases e : ρ.getD i .un with
    | val d => rw [e] at q; obtain ⟨v, e1, r⟩ := q; exact ⟨v, e1, r.mono s⟩
    | _ => trivial
  · rw [still_own] at h; cases h
  · rw [still_own] at h; cases h
  · obtain ⟨e1, e2⟩ := S.pin i v h
    exact ⟨e1, by rw [getD_still, e2]⟩
theorem aft0 {σ' : L2.St} {H' F' : Hp} {ρ' : Ro} (S' : Stt K ⟨H1, F1, [], []⟩ σ' H' F' ρ') : Aft K H1 F1 H' F' := ⟨⟨fun a o e n => S'.same a o e (fun i z => by simp at z) n, fun _ => S'.tb⟩, S'.sub, S'.ext, S'.new, fun _ => S'.ft⟩
end
open LamX
section
variable [Lam] [P0 : Pins]
/-- the context of a def that is handed a lambda -/
abbrev cxT (X : Cx) (Ng : List Str) (nm : Str) (sg : Scope) (g : Addr) (cdg : Value) (s : Shared) (H : Hp) : Cx := cxOf (L2.CX X.prog X.w) X.prog X.w X.K X.mg X.base Ng nm sg g cdg X.A X.stack s H E0F
/-- the lambda at f, called by that def -/
theorem lam_run {X : Cx} {pins : List (Addr × Obj)} {σ : L2.St} {H F : Hp} {s : Shared} {G : Ent} {ρ : Ro} {Ng : List Str} {nm a q : Str} {sg scope : Scope} {g f c : Addr} {cdg pm ctv : Value} {params : Arguments} {body : Expr} {k : Nat} {fb : M D}
    {pn : List (Addr × Obj)} {xe : Value → Shared → Prop} {W : WX} {p1 p2 : Pos} (I : Inv X pins σ H s) (S : Stt X.K G σ H F ρ) (L : LamS X.env.scope scope) (eq : q = X.env.qual ++ "<lambda>")
    (of : s.heap.get? f = some (PySem.W.kla_obj "<lambda>" q params body scope (cloFrom X.env.cells scope.names []) pm c ctv)) (Hf : H f = none) (ff : f ∉ frs X.stack)
    (bd : bindArgs (PySem.W.kla_fn "<lambda>" q params body scope (cloFrom X.env.cells scope.names []) pm (.ref c) ctv) ⟨[], []⟩ = pure []) (room : RoomG (k + 1) (X.A.deeper (envOfC nm sg s.heap.objs.size g cdg)))
    (hb : ∀ (A : Around) (outer : List Env) (s : Shared) (H : Hp) (E : XK), RoomG k (A.deeper (lamEnv X scope s.heap.objs.size f c)) → AE (lamCx X A outer s H E scope f c) (fun y d _ H => E y d H) body fb)
    (tk : Takes ((cxT X Ng nm sg g cdg s H).tr pn xe) W) (h0 : Ng[0]? = some a) (va : Vis sg a) (hF : F c = some (CodeO c q)) (nd : (a == ("__debug__" : Str)) = false := by decide) (nc : (a == ("__classdict__" : Str)) = false := by decide) :
    @AE _ ⟨[(0, .ref f)], F⟩ ((cxT X Ng nm sg g cdg s H).tr pn xe) W (.Call (.Name a p1) [] [] p2) (mThunk (fb (stillR ρ)).toF) := by
  subst eq
  refine ⟨fun τ HZ Q => ∃ G2 F2 ρ2, @Stt _ ⟨[(0, .ref f)], F⟩ X.K G2 τ HZ F2 ρ2 ∧ @Good _ ⟨[(0, .ref f)], F⟩ _ X.K G2 W τ F2 (mThunk (fb (stillR ρ)).toF ρ2) (PD X.K Q), ⟨fun pz sz τ HZ Q IZ h => ?_⟩, fun G2 τ HZ F2 ρ2 Q S2 hg => ⟨G2, F2, ρ2, S2, hg⟩⟩
  obtain ⟨G2, F2, ρ2, S2, hg⟩ := h
  have S2c := S2
  obtain ⟨sub2, kft, ktb, _, _, _, _, _, _, _, _, _, _, _, kpin, sF⟩ := S2c
  have pin0 := kpin 0 (.ref f) (List.mem_cons_self ..)
  have sF : Sm F F2 := sF
  have pre2 : Pre X.K F2 HZ := ⟨sub2, kft, ktb⟩
  unfold mThunk at hg
  rw [pin0.2] at hg
  refine wpAny_Call_Name_kw (thn ((pe_var (pos := p1) (i := 0) h0 va nd nc).run pz sz τ HZ (fun v H2 => v = .ref f ∧ H2 = HZ) IZ ⟨.ref f, pin0.1, rfl, rfl⟩) fun u s1 hv => ?_)
  obtain ⟨v, H2, I2, rv, ev, eH⟩ := hv
  subst ev eH
  obtain rfl : u = Value.ref f := rv
  have of1 := I2.base.keep f _ of Hf ff (fun z => nomatch (show f ∈ ([] : List Addr) from z))
  refine PySem.W.callWith_F0 ⟨_, _, _, _, of1⟩ ?_
  have ub : Un (frs X.stack) [] H H2 s.heap s1.heap := I2.base
  obtain ⟨⟨oc, vs, t, c1, c2, c3⟩, _, _⟩ := I2.hok c _ (sub2 _ _ (sF _ _ hF))
  have go : codeAny (model X.prog X.w) (X.A.deeper (envOfC nm sg s.heap.objs.size g cdg)) (.call (.ref f) ⟨[], []⟩) (CR (L2.CX X.prog X.w) (envOfC nm sg s.heap.objs.size g cdg :: X.stack) X.prog X.w H2 s1 Q (WE W τ)) s1 := by
    refine PySem.W.kla_callFunE room.r.depth of1 rfl L.co L.gen rfl ⟨c, oc, vs, t, rfl, c1, c2, c3⟩ ?_
    rw [bd]
    refine wpAny_pure (wpAny_newFunctionEnv (fun y hy => (L.own y hy).2) (fun y hy => absurd hy (by simp)) (fun h2 ns2 sb2 => ⟨I2.nolimit.fresh _ sb2, ?_⟩) L.kind)
    have kp2 : ∀ b o, s1.heap.get? b = some o → h2.get? b = some o := fun b o e => sb2.extBut b o (Nat.ne_of_lt (Heap.lt_size e)) (Heap.get?_push_of_some _ e)
    have J := lam_start2 (tk := s1.toks + ([] : List (Str × Value)).length) (E := WE W τ) (f := f) (c' := c) I L I2.env0 room.r.hd ub ns2 kp2
    obtain ⟨tb, pb, qb⟩ := hb (X.A.deeper (envOfC nm sg s.heap.objs.size g cdg)) (envOfC nm sg s.heap.objs.size g cdg :: X.stack) s1 H2 (WE W τ) (room.deeper _)
    have done : tb σ H2 Q := by
      refine qb ⟨H2, F2, [], []⟩ σ H2 F2 (stillR ρ) Q (S.still pre2 sF) ?_
      have back : ∀ {σ' : L2.St} {H' F' : Hp} {ρ' : Ro}, Stt X.K ⟨H2, F2, [], []⟩ σ' H' F' ρ' → @Stt _ ⟨[(0, .ref f)], F⟩ X.K G2 τ H' F' ρ2 := fun S' => @Stt.aft _ ⟨[(0, .ref f)], F⟩ _ _ _ _ _ _ _ _ S2 (aft0 S')
      cases ef : fb (stillR ρ) with
      | ok d ρ3 =>
        rw [ef] at hg
        exact fun H' F' S' s' v rv => hg H' F' (back S') s' v rv
      | exc x ρ3 =>
        rw [ef] at hg
        exact fun d H' F' S' s' xa => hg d H' F' (back S') s' xa
      | stuck => rw [ef] at hg; exact hg
    refine PySem.W.kla_codeExpr (wpAny_mono (pb.run [] _ _ H2 Q J done) (fun v s' hq => ?_) fun e s' hq => hq)
    obtain ⟨w, H', J', rw_, q⟩ := hq
    exact ⟨w, H', J'.os, J'.bare, J'.base, J'.hok, rw_, q⟩
  refine wpAny_call (codeAny_mono go fun r s' hq => ?_)
  cases r with
  | error e => exact passAt tk τ pz _ _ e s' I2 hq
  | ok fl =>
    cases fl with
    | ret u => exact I2.after hq
    | _ => exact hq.elim
end
section
variable [Lam] [P0 : Pins]
/-- the promise of a def that calls what it is handed: gm, by the outcome of that call -/
def ThunkOk (P : Program) (w : World) (K : PySem.W.Frag) (mg : Str → Option Value) (base : Heap) (k : Nat) (g : Addr) (nm : Str) (Ng : List Str) (sg : Scope) (bg : List Stmt) (a : Str) (gm : FR D → M Fl) : Prop :=
  ∀ (cdg : Value) (A : Around) (outer : List Env) (s : Shared) (H F : Hp) (f : Addr) (r : FR D), RoomG k (A.deeper (envOfC nm sg s.heap.objs.size g cdg)) →
    (∀ (W : WX) (pn : List (Addr × Obj)) (xe : Value → Shared → Prop) (p1 p2 : Pos), Takes ((cxOf (L2.CX P w) P w K mg base Ng nm sg g cdg A outer s H E0F).tr pn xe) W →
      @AE _ ⟨[(0, .ref f)], F⟩ ((cxOf (L2.CX P w) P w K mg base Ng nm sg g cdg A outer s H E0F).tr pn xe) W (.Call (.Name a p1) [] [] p2) (mThunk r)) →
    @AB _ ⟨[(0, .ref f)], F⟩ (cxOf (L2.CX P w) P w K mg base Ng nm sg g cdg A outer s H E0F) W0 bg (gm r)
/-- the slots of a def that was handed a lambda -/
theorem stt_thunk {K : PySem.W.Frag} {H F : Hp} {N : List Str} {f : Addr} (p : Pre K F H) (hN : 0 < N.length) : @Stt _ ⟨[(0, .ref f)], F⟩ K ⟨H, F, [], []⟩ (L2.start N [V.ref f]) H F (.pin :: List.replicate (N.length - 1) .un) := by
  have no : ∀ i, ((SV.pin :: List.replicate (N.length - 1) SV.un).getD i .un).isOwn = false := fun i => by
    cases i with
    | zero => rfl
    | succ i =>
      show ((List.replicate (N.length - 1) SV.un).getD i .un).isOwn = false
      rw [getD_rep]; rfl
  refine @Stt.mk _ ⟨[(0, .ref f)], F⟩ _ _ _ _ _ _ p.sub p.ft p.tb (fun _ _ h _ _ => h) Sm.refl (fun _ _ h => .inl h) (by simp [L2.start]) (fun i => ?_) (fun i j a h => ?_) (fun i a h => ?_) (fun i a h => by simp at h) (fun q h => by simp at h) (fun q h => by simp at h) .nil (fun i v h => ?_) Sm.refl
  · cases i with
    | zero => trivial
    | succ i =>
      show SlotOk K H F _ ((List.replicate (N.length - 1) SV.un).getD i .un)
      rw [getD_rep]; trivial
  · rw [no] at h; cases h
  · rw [no] at h; cases h
  · have e : (i, v) = (0, V.ref f) := by
      have h : (i, v) ∈ [(0, V.ref f)] := h
      simpa using h
    cases e
    exact ⟨rfl, rfl⟩
/-- x(lambda: body) -/
theorem AE.lam {X : Cx} {W : WX} {nm a q : Str} {g fX : Addr} {k kb kk : Nat} {pg params : Arguments} {bg : List Stmt} {sg scope : Scope} {fdg : FuncData} {Ng : List Str} {body : Expr} {gm : FR D → M Fl} {fb : M D} {p lpos pos : Pos}
    (Fg : FunD X.K nm nm pg bg sg [] [] g fdg) (Tk : ThunkOk X.prog X.w X.K X.mg X.base k g nm Ng sg bg a gm) (Sg : FnScope Ng [a] sg) (h0 : Ng[0]? = some a) (va : Vis sg a) (bdg : Binds X.K fdg [a] []) (hg : Gl X nm) (hm : X.mg nm = some (.ref g))
    (LF : LamF X.K X.mg fX q) (hcd : X.env.code = codV X.K fX) (hq : q = X.env.qual ++ "<lambda>") (hr : RoomG (kk + 2) X.A) (hk1 : kb ≤ kk) (hk2 : k ≤ kk + 1) (L : LamS X.env.scope scope) (hdef : defaultsOf params X.env = ([], []))
    (hbind : ∀ (q : Str) (cl : List (Str × Addr)) (pm cv ctv : Value), bindArgs (PySem.W.kla_fn "<lambda>" q params body scope cl pm cv ctv) ⟨[], []⟩ = pure [])
    (hb : ∀ (A : Around) (outer : List Env) (s : Shared) (H : Hp) (E : XK) (f c : Addr), RoomG kb (A.deeper (lamEnv X scope s.heap.objs.size f c)) → AE (lamCx X A outer s H E scope f c) (fun y d _ H => E y d H) body fb)
    (hdb : (nm == ("__debug__" : Str)) = false := by decide) (nd : (a == ("__debug__" : Str)) = false := by decide) (nc : (a == ("__classdict__" : Str)) = false := by decide) :
    AE X W (.Call (.Name nm p) [.Lambda params body scope lpos] [] pos) (mLam (fun r => runT Ng.length (gm r)) fb) := by
  subst hq
  refine ⟨fun σ H Q => ∃ G F ρ, Stt X.K G σ H F ρ ∧ Good X.K G W σ F (mLam (fun r => runT Ng.length (gm r)) fb ρ) (PD X.K Q), ⟨fun pins s σ H Q I h => ?_⟩, fun G σ H F ρ Q S hg => ⟨G, F, ρ, S, hg⟩⟩
  obtain ⟨G, F, ρ, S, hgood⟩ := h
  obtain ⟨c0, P, k1, k2, k3, k4, k5, k6⟩ := LF.ex
  obtain ⟨oc, od, dV, kV, doc, pm, an, cdv, ct, osl, rfl, at_g, code_g, _, _⟩ := Fg.ex
  have TB : LamX.TabB X.base X.mg c0 P := ⟨PySem.W.codeHd_of_K I.ok.mod.kin k2, k6 _ I.ok.mod.kin, k5⟩
  refine wpAny_Call_Name_kw (ld_glob I hg hm ?_ hdb)
  refine PySem.W.callWith_K (h₀ := X.base) I.ok.mod.kin Fg.kp ?_ (by rfl) (by rfl)
  show wpAny _ _ (spliced ((false, eval (.Lambda params body scope lpos) X.env) :: backTo pos (starEach [] X.env))) _ _ s
  refine Calls.spliced_cons (lam_make2 I TB (hcd.trans k1) k3 k4 S.tb hdef (L.has I.ok) fun f c pm2 ctv H1 s1 I1 eN T1 of1 nf ff co => Calls.spliced_nil ⟨I1.kIn, ?_⟩)
  have nt : ∀ {o : HO}, isTb o = false → ∀ ps, o ≠ .tbl ps := fun {o} n ps e => by subst e; cases n
  have sub1 : Sm F H1 := fun b o e => eN b o (S.sub b o e) (nt (S.ft b o e))
  have S1 : Stt X.K G σ H1 F ρ := S.grow ⟨fun b o e n => eN b o e (nt n), fun _ => T1⟩ sub1 Sm.refl (fun _ _ e => .inl e) S.ft
  -- the code object is known from now on
  let F2 : Hp := fun b => if b = c then some (CodeO c (X.env.qual ++ "<lambda>")) else F b
  have F2c : F2 c = some (CodeO c (X.env.qual ++ "<lambda>")) := if_pos rfl
  have xc : isX (CodeO c (X.env.qual ++ "<lambda>")) = true ∧ isTb (CodeO c (X.env.qual ++ "<lambda>")) = false := by unfold CodeO; exact ⟨rfl, rfl⟩
  have s2 : Sm F F2 := fun b o e => by
    show (if b = c then _ else F b) = _
    split
    · rename_i z
      subst z
      rw [← co, sub1 b o e]
    · exact e
  have p2 : Pre X.K F2 H1 := ⟨fun b o e => by
      by_cases z : b = c
      · subst z; rw [F2c] at e; cases e; exact co
      · exact sub1 b o ((if_neg z).symm.trans e), fun b o e => by
      by_cases z : b = c
      · subst z; rw [F2c] at e; cases e; exact xc.2
      · exact S.ft b o ((if_neg z).symm.trans e), T1⟩
  have room : RoomG (kk + 1) (X.A.deeper (envOfC nm sg s1.heap.objs.size g cdv)) := hr.deeper _
  have S2 : Stt X.K G σ H1 F2 ρ := S1.grow Sm.refl.t p2.sub s2 (fun b o e => by
    by_cases z : b = c
    · subst z
      exact .inr fun u hu => by rw [co] at hu; cases hu; exact xc.1
    · exact .inl ((if_neg z).symm.trans e)) p2.ft
  have run : codeAny (model X.prog X.w) X.A (.call (.ref g) ⟨[.ref f], []⟩) (CR (L2.CX X.prog X.w) X.stack X.prog X.w H1 s1 Q E0F) s1 := by
    refine run_ofS (N := Ng) (ps := [a]) (us := [.ref f]) (vs := [.ref f]) at_g code_g Sg hr.r I1.env0 (bdg s1 [.ref f] I1.kIn rfl) (.cons rfl .nil) rfl fun _ => ?_
    obtain ⟨tb, pb, qb⟩ := Tk cdv X.A X.stack s1 H1 F2 f (fb (stillR ρ)).toF (room.mono hk2) fun W2 pn xe p1 p2 tk2 =>
      lam_run (k := kb) I1 S2 L rfl of1 nf ff (hbind _ _ _ _ _) (room.mono (Nat.succ_le_succ hk1)) (fun A outer s H E rm => hb A outer s H E f c rm) tk2 h0 va F2c nd nc
    refine ⟨tb, pb, qb ⟨H1, F2, [], []⟩ _ H1 F2 _ _ (stt_thunk p2 (List.getElem?_eq_some_iff.mp h0).1) ?_⟩
    have back : ∀ {σ' : L2.St} {H' F' : Hp} {ρ' : Ro}, @Stt _ ⟨[(0, .ref f)], F2⟩ X.K ⟨H1, F2, [], []⟩ σ' H' F' ρ' → Stt X.K G σ H' F' ρ ∧ Sm F F' := fun {σ' H' F' ρ'} S' => by
      obtain ⟨j1, j2, j3, j4, j5, j6, _, _, _, _, _, _, _, _, _, _⟩ := S'
      have sf : Sm F F' := s2.tr j5
      refine ⟨S1.grow ⟨fun b o e n => j4 b o e (fun i z => by simp at z) n, fun _ => j3⟩ j1 sf (fun b o e => (j6 b o e).elim (fun z => ?_) .inr) j2, sf⟩
      by_cases zc : b = c
      · subst zc
        exact .inr fun u hu => by rw [co] at hu; cases hu; exact xc.1
      · exact .inl ((if_neg zc).symm.trans z)
    have hgood : Good X.K G W σ F ((runT Ng.length (gm (fb (stillR ρ)).toF)).lift ρ) (PD X.K Q) := hgood
    unfold runT at hgood
    cases eg : gm (fb (stillR ρ)).toF (.pin :: List.replicate (Ng.length - 1) .un) with
    | ok fl ρ3 =>
      rw [eg] at hgood
      cases fl with
      | nx => exact fun σ' H' F' S' s' => let ⟨b1, b2⟩ := back S'; hgood H' F' b1 b2 .non .non
      | rt d => exact fun v σ' H' F' S' s' rv => let ⟨b1, b2⟩ := back S'; hgood H' F' b1 b2 v rv
      | rn ds => exact hgood.elim
      | bk => exact hgood.elim
      | ct => exact hgood.elim
    | exc x ρ3 => rw [eg] at hgood; exact hgood.elim
    | stuck => rw [eg] at hgood; exact hgood.elim
  refine wpAny_call (codeAny_mono run fun r s2 hq => ?_)
  cases r with
  | error e =>
    obtain ⟨_, _, _, _, _, _, _, _, _, _, _, _, z⟩ := hq
    exact z.elim
  | ok fl =>
    cases fl with
    | ret u => exact I1.after hq
    | _ => exact False.elim hq
end
end Mr
namespace Mr
open PySem PySem.Spec PyProof.Rows L2
variable [Lam] [Pins]
/-- what the text says of the class U's == and != -/
structure EqF (K : PySem.W.Frag) (U : Str) : Prop where
  nf : ∀ t ∈ (["NoneType", "bool", "int", "str", "tuple", "list", "dict"] : List String), PySem.W.notFirst K (He.ga K U) (.type t) = true
  ne : PySem.W.findIn K (.ref (He.ga K U)) "__ne__" = some (some (.builtin "object.__ne__"))
  so : PySem.W.subIn K (.ref (He.ga K U)) (.type "object") = some true
  ns : PySem.W.noSeq K (He.ga K U) = true
def eqFB (U : Str) (K : PySem.W.Frag) : Bool := ((["NoneType", "bool", "int", "str", "tuple", "list", "dict"] : List String).all fun t => PySem.W.notFirst K (He.ga K U) (.type t)) &&
  (He.eqO (PySem.W.findIn K (.ref (He.ga K U)) "__ne__") (some (some (.builtin "object.__ne__"))) && (decide (PySem.W.subIn K (.ref (He.ga K U)) (.type "object") = some true) && PySem.W.noSeq K (He.ga K U)))
theorem eqFB_ok {K : PySem.W.Frag} {U : Str} (h : eqFB U K = true) : EqF K U := by
  obtain ⟨h1, h⟩ := He.ba h
  obtain ⟨h2, h⟩ := He.ba h
  obtain ⟨h3, h4⟩ := He.ba h
  exact ⟨fun t ht => List.all_eq_true.mp h1 t ht, He.eqO_ok h2, of_decide_eq_true h3, h4⟩
theorem fnIn_of {K : PySem.W.Frag} {x qual : Str} {params : Arguments} {body : List Stmt} {scope : Scope} {dvs : List V} {kws : List (Str × V)} {f : Addr} {fd : FuncData} (F : FunD K x qual params body scope dvs kws f fd) : PySem.W.fnIn K f = true := by
  obtain ⟨oc, od, dV, kV, doc, pm, an, cdv, ct, osl, rfl, at_f, code_f, _, _⟩ := F.ex
  unfold PySem.W.fnIn
  rw [at_f]
section
variable {X : Cx} {W : WX} {k : Nat} {f : Addr} {fd : FuncData} {ps : List Str} {sp : Sp} {pins : List (Addr × Obj)} {σ : L2.St} {H : Hp} {s : Shared} {Q : VK}
theorem run_in {A' : Around} (room : RoomG k A') (e0 : Env0 X.prog X.w X.K X.mg X.base A' X.stack s H) {us : List Value} {vs : List V} (F : FnG X.prog X.w X.K X.mg X.base k f fd ps sp) (hb : Binds X.K fd ps []) (I : Inv X pins σ H s) (r : Vals vs us) (h : sp vs H Q E0F) {E' : Value → Shared → Prop} :
    wpAny (model X.prog X.w) A' (call (.ref f) us) (EP X pins σ Q) E' s := by
  have hl : (us ++ ([] : List Value)).length = ps.length := by rw [List.append_nil, ← r.length]; exact F.len _ _ _ _ h
  refine wpAny_call (codeAny_mono (F.run A' X.stack s H ⟨us, []⟩ (us ++ []) vs Q E0F room e0 (hb s us I.kIn hl) (by rw [List.append_nil]; exact r) h) fun r s2 q => ?_)
  match r, q with
  | .error er, q => obtain ⟨_, _, _, _, _, _, _, _, _, _, _, _, z⟩ := q; exact z.elim
  | .ok (.ret u), q => exact I.after q
  | .ok .next, q => exact False.elim q
  | .ok .brk, q => exact False.elim q
  | .ok .cont, q => exact False.elim q
def rOwnLen (C : Addr) (sp : Sp) : List V → Hp → VK → Prop := fun xs H Q => ∃ a dx fs, xs = [.ref a] ∧ H a = some (.ins C dx fs) ∧ sp [.ref a] H (fun v H' => ∃ n : Int, v = .int n ∧ (0 ≤ n ∧ n < 2 ^ 63) ∧ Q (.int n) H') E0F
theorem call_lenOwn {C : Addr} (M : Meth X.K C "__len__" f) (F : FnG X.prog X.w X.K X.mg X.base k f fd ps sp) (hr : RoomG (k + 1) X.A) (hb : Binds X.K fd ps []) : CallR X (.builtin "len") (rOwnLen C sp) := by
  intro pins s σ H xs us Q I r h
  obtain ⟨a, dx, fs, rfl, ea, hs⟩ := h
  obtain ⟨u, rfl, ru⟩ : ∃ u, us = [u] ∧ RelV (.ref a) u := by
    cases r with
    | cons r1 rr => cases rr; exact ⟨_, rfl, r1⟩
  obtain rfl : u = Value.ref a := ru
  obtain ⟨mA, J, _⟩ := ins_get I.hok ea
  obtain ⟨od, J, _⟩ := J.look
  obtain ⟨m, hF⟩ := I.fr
  have room : RoomG k X.A.in1 := ⟨hr.r.in1, hr.g⟩
  refine PySem.W.len_K hF I.ok.mod.kin J M.at_ M.fn (wpAny_mono (run_in (us := [.ref a]) (vs := [.ref a]) room I.env0.in1 F hb I (.cons rfl .nil) hs) (fun r s' q => ?_) fun _ _ z => z)
  obtain ⟨w, H', I', rw_, n, e, hn, q⟩ := q
  subst e
  obtain ⟨t, rfl⟩ := rw_
  exact ⟨hn, .int n, H', I'.tok _, ⟨_, rfl⟩, q⟩
def rOwnIx (C : Addr) (sp : Sp) : R2 := fun x y H Q => ∃ a dx fs, x = .ref a ∧ H a = some (.ins C dx fs) ∧ sp [.ref a, y] H Q E0F
/-- what stands as an index of a plain subscript, by an own __getitem__ -/
def PlainIxO (b : Expr) : Prop := ∀ o i, subscripted b true o i = runValue (.builtin "lifetime.subscript" ⟨[o, i], []⟩)
def IxO (X : Cx) (r : R2) : Prop :=
  ∀ (value slice : Expr) (pins : List (Addr × Obj)) (s : Shared) (σ : L2.St) (H : Hp) (x y : V) (v u : Value) (Q : VK), Inv X pins σ H s → RelV x v → RelV y u → r x y H Q →
    PlainIx slice → PlainIxO slice → wpAny (model X.prog X.w) X.A (subscriptTail value slice v u) (EP X pins σ Q) X.xe s
theorem IxR.ixO {r : R2} (h : IxR X r) : IxO X r := fun value slice pins s σ H x y v u Q I rx ry q p _ => h value slice pins s σ H x y v u Q I rx ry q (p _ _)
theorem IxO.or {r r' : R2} (h : IxO X r) (h' : IxO X r') : IxO X (fun x y H Q => r x y H Q ∨ r' x y H Q) := by
  intro value slice pins s σ H x y v u Q I rx ry q p po
  rcases q with q | q
  · exact h value slice pins s σ H x y v u Q I rx ry q p po
  · exact h' value slice pins s σ H x y v u Q I rx ry q p po
theorem ix_own {C : Addr} (M : Meth X.K C "__getitem__" f) (hfn : PySem.W.fnIn X.K f = true) (F : FnG X.prog X.w X.K X.mg X.base k f fd ps sp) (hr : RoomG (k + 1) X.A) (hb : Binds X.K fd ps []) : IxO X (rOwnIx C sp) := by
  intro value slice pins s σ H x y v u Q I rx ry h p po
  obtain ⟨a, dx, fs, rfl, ea, hs⟩ := h
  obtain rfl : v = Value.ref a := rx
  obtain ⟨mA, J, _⟩ := ins_get I.hok ea
  obtain ⟨od, J, _⟩ := J.look
  obtain ⟨m, hF⟩ := I.fr
  have room : RoomG k X.A.in1 := ⟨hr.r.in1, hr.g⟩
  exact PySem.W.sub_K hF I.ok.mod.kin J M.at_ hfn M.fn (run_in (us := [.ref a, u]) (vs := [.ref a, y]) room I.env0.in1 F hb I (.cons rfl (.cons ry .nil)) hs) (po _ _)
theorem pe_ixO {r : R2} {a b : Expr} {ta tb : TE} {pos : Pos} (hr : IxO X r) (ha : PE X a ta) (hb : PE X b tb) (hs : PlainIx b) (ho : PlainIxO b) : PE X (.Subscript a b pos) (tOp r ta tb) := by
  refine ⟨fun pins s σ H Q I h => ?_⟩
  exact Subscript_ (binT ha hb I h fun v u s2 x y H2 I2 rx ry q => hr a b pins s2 σ H2 x y v u Q I2 rx ry q hs ho)
def TyO (K : PySem.W.Frag) (C : Addr) (H : Hp) (y : V) : Prop := (∃ t ∈ (["NoneType", "bool", "int", "str", "tuple", "list", "dict"] : List String), TyX K H y (.type t)) ∨ ∃ b dx fs, y = .ref b ∧ H b = some (.ins C dx fs)
def rOwnEq (K : PySem.W.Frag) (C : Addr) (sp : Sp) (g : Bool → Bool) : R2 := fun x y H Q => ∃ a dx fs, x = .ref a ∧ H a = some (.ins C dx fs) ∧ TyO K C H y ∧ sp [.ref a, y] H (fun v H' => ∃ r, v = .bl r ∧ Q (.bl (g r)) H') E0F
theorem tyO_looks {U : Str} (e : EqF X.K U) (I : Inv X pins σ H s) {y : V} {u : Value} (ry : RelV y u) (h : TyO X.K (He.ga X.K U) H y) : ∃ tb, PySem.W.Looks (model X.prog X.w) s.heap (typeOf u) tb ∧ PySem.W.notFirst X.K (He.ga X.K U) tb = true := by
  rcases h with ⟨t, ht, ty⟩ | ⟨b, dx, fs, rfl, hb⟩
  · obtain ⟨P, kx, hp, _⟩ := kit_of I ry ty
    exact ⟨_, kx.ty _ _ I.kIn hp, e.nf t ht⟩
  · obtain rfl : u = Value.ref b := ry
    obtain ⟨mA, J, _⟩ := ins_get I.hok hb
    obtain ⟨od, J, _⟩ := J.look
    exact ⟨_, J.type, by unfold PySem.W.notFirst; simp⟩
end
section
variable {prog : Program} {w : World} {A : Around} {E : Value → Shared → Prop} {s : Shared} {K : PySem.W.Frag} {x C L f : Addr} {h₀ : Heap} {m : Str → Option Value} {ox : Obj} {od : Option Obj} {b tb : Value}
theorem obj_ne {Q : Fin → Shared → Prop} (hu : A.units < cLine) (X : K.In s.heap) (I : PySem.W.InstAt s.heap x ox C od) (hs : PySem.W.findIn K (.ref C) "__eq__" = some (some (.ref f))) (hf : PySem.W.isFn K (.ref f) = true)
    (h : wpAny (model prog w) A (call (.ref f) [.ref x, b]) (fun v s' => ∃ r, v = .bool r ∧ Q (.done (.ret (.bool (!r)))) s') E s) : wpAny (model prog w) A (Builtin.«object.__ne__» ⟨[.ref x, b], []⟩) Q E s := by
  unfold Builtin.«object.__ne__»
  refine wpAny_bind (m := slotArgs "__ne__" 1 _) (wpAny_pure ?_)
  refine wpAny_bind (wpAny_cRoomFor hu ?_)
  refine wpAny_bind (m := callSpecialIfBound? (.ref x) (Str.ofString "__eq__") [b]) (PySem.W.ifBound_K X I hs hf (wpAny_mono h (fun v s' hv => ?_) fun _ _ e => e))
  obtain ⟨r, rfl, q⟩ := hv
  exact wpAny_bind (wpAny_truthy_bool (wpAny_pure q))
theorem ne_K {Q : Value → Shared → Prop} (hu : A.units + 1 < cLine) (X : K.In s.heap) (I : PySem.W.InstAt s.heap x ox C od) (hb : PySem.W.Looks (model prog w) s.heap (typeOf b) tb) (hn : PySem.W.notFirst K C tb = true)
    (hne : PySem.W.findIn K (.ref C) "__ne__" = some (some (.builtin "object.__ne__"))) (so : PySem.W.subIn K (.ref C) (.type "object") = some true) (hs : PySem.W.findIn K (.ref C) "__eq__" = some (some (.ref f))) (hf : PySem.W.isFn K (.ref f) = true)
    (h : wpAny (model prog w) A.in1 (call (.ref f) [.ref x, b]) (fun v s' => ∃ r, v = .bool r ∧ Q (.bool (!r)) s') E s) : wpAny (model prog w) A (richCompare .NotEq (.ref x) b) Q E s := by
  have one : wpAny (model prog w) A (tryCompare (.ref x) "__ne__" b) (fun r s' => ∃ v, r = some v ∧ Q v s') E s := by
    unfold tryCompare
    have cl : wpAny (model prog w) A (call (.builtin "object.__ne__") [.ref x, b]) (fun v s' => ∃ r, v = .bool r ∧ Q (.bool r) s') E s := by
      refine wpAny_call (codeAny_call_builtin PySem.F.cmp_object.ne.plain PySem.F.cmpEntry_ne (PySem.W.check_slot PySem.F.cmpKind_ne PySem.F.cmpSplit_ne (I.type.andThen (PySem.W.looks_subIn X so)) (PySem.F.cmpArgs_ne _ _)
        (obj_ne (A := A.in1) hu X I hs hf (wpAny_mono h (fun v s' hv => ?_) fun _ _ e => e))))
      obtain ⟨r, rfl, q⟩ := hv
      exact ⟨r, rfl, _, rfl, q⟩
    refine wpAny_bind (m := callSpecialIfBound? (.ref x) "__ne__" [b]) ?_
    simp only [callSpecialIfBound?, bindSpecialIfBound?]
    refine wpAny_holding (wpAny_bind (wpAny_bind (wpAny_bind (I.type.here ((PySem.W.looks_findIn X hne).here ?_)))))
    simp only [PySem.F.cmp_object.ne.bind]
    refine wpAny_bind (wpAny_askSetting (wpAny_ite ?_))
    split
    · refine wpAny_bind (wpAny_pure (wpAny_pure (wpAny_bind (wpAny_mono cl (fun v s' h' => ?_) fun _ _ h' => h'))))
      obtain ⟨r, rfl, q⟩ := h'
      exact wpAny_pure (wpAny_pure ⟨_, rfl, q⟩)
    · refine wpAny_tryCatch (wpAny_bind (wpAny_pure (wpAny_pure (wpAny_bind (wpAny_mono cl (fun v s' h' => ?_) fun _ _ h' => h')))))
      obtain ⟨r, rfl, q⟩ := h'
      exact wpAny_pure (wpAny_pure ⟨_, rfl, q⟩)
  unfold richCompare
  simp only [oneThing_ref]
  refine wpAny_holding (wpAny_bind (wpAny_cRoomFor (by omega) ?_))
  refine wpAny_bind (I.type.here (wpAny_bind (hb.here ?_)))
  split
  · rename_i q
    have e : PySem.W.subIn K tb (.ref C) = some false := by
      rcases Bool.or_eq_true_iff.mp hn with e | e
      · rw [beq_iff_eq.mp e] at q; simp at q
      · exact beq_iff_eq.mp e
    refine wpAny_bind ((PySem.W.looks_subIn X e).here ?_)
    simp only [Bool.false_eq_true, if_false]
    refine wpAny_bind (wpAny_mono one (fun r s' z => ?_) fun _ _ e => e)
    obtain ⟨v, rfl, hq⟩ := z
    exact wpAny_pure hq
  · refine wpAny_bind (wpAny_pure ?_)
    simp only [Bool.false_eq_true, if_false]
    refine wpAny_bind (wpAny_mono one (fun r s' z => ?_) fun _ _ e => e)
    obtain ⟨v, rfl, hq⟩ := z
    exact wpAny_pure hq
end
section
variable {X : Cx} {W : WX} {k : Nat} {f : Addr} {fd : FuncData} {ps : List Str} {sp : Sp} {c : Str} {m : List D → FR D}
theorem op_neOwn {U : Str} (e : EqF X.K U) (hu : X.A.units + 64 < cLine) (M : Meth X.K (He.ga X.K U) "__eq__" f) (F : FnG X.prog X.w X.K X.mg X.base k f fd ps sp) (hr : RoomG (k + 1) X.A) (hb : Binds X.K fd ps []) : OpR X (compareOp .NotEq) (rOwnEq X.K (He.ga X.K U) sp not) := by
  intro pins s σ H x y v u Q I rx ry h
  obtain ⟨a, dx, fs, rfl, ea, ty, hs⟩ := h
  obtain rfl : v = Value.ref a := rx
  obtain ⟨mA, J, _⟩ := ins_get I.hok ea
  obtain ⟨od, J, _⟩ := J.look
  obtain ⟨tb, lk, nf⟩ := tyO_looks e I ry ty
  have room : RoomG k X.A.in1 := ⟨hr.r.in1, hr.g⟩
  refine ne_K (by omega) I.kIn J lk nf e.ne e.so M.at_ M.fn (wpAny_mono (run_in (us := [.ref a, u]) (vs := [.ref a, y]) room I.env0.in1 F hb I (.cons rfl (.cons ry .nil)) hs) (fun r s' q => ?_) fun _ _ z => z)
  obtain ⟨w, H', I', rw_, rr, e, q⟩ := q
  subst e
  cases rw_
  exact ⟨rr, rfl, .bl (!rr), H', I', rfl, q⟩
/-- what may stand to the right of an own == -/
def rtO (c : Str) : D → Bool
  | .obj c' _ _ => decide (c' = c)
  | .non => true
  | .bl _ => true
  | .int _ => true
  | .str _ => true
  | .tup _ => true
  | .lst _ => true
  | .dct _ _ => true
  | _ => false
theorem rtO_ty {K : PySem.W.Frag} {F H : Hp} {y : V} {d : D} (sub : Sm F H) (r : Rep K F y d) (h : rtO c d = true) : TyO K (He.ga K c) H y := by
  cases r with
  | obj h1 h2 h3 h4 =>
    obtain rfl := of_decide_eq_true h
    exact .inr ⟨_, _, _, rfl, sub _ _ h1⟩
  | non => exact .inl ⟨"NoneType", by simp, .base .non⟩
  | bl b => exact .inl ⟨"bool", by simp, .base (.bl b)⟩
  | int i => exact .inl ⟨"int", by simp, .base (.int i)⟩
  | str x => exact .inl ⟨"str", by simp, .base (.str x)⟩
  | tup hx rx => exact .inl ⟨"tuple", by simp, tyx_of (Rep.mono sub (.tup hx rx)) rfl⟩
  | lst hx rx => exact .inl ⟨"list", by simp, .base (.lst (sub _ _ hx))⟩
  | dct hx l rx => exact .inl ⟨"dict", by simp, .base (.dK (sub _ _ hx))⟩
  | _ => cases h
def neW (c : Str) (m : List D → FR D) (a b : D) : FR D := match a with
  | .obj c' ns ds => if c' = c ∧ rtO c b = true then nboolR (m [.obj c' ns ds, b]) else .stuck
  | _ => neD a b
theorem OA.neW (hu : X.A.units + 64 < cLine) (E : EqF X.K c) (M : Meth X.K (He.ga X.K c) "__eq__" f) (Fn : FnG X.prog X.w X.K X.mg X.base k f fd ps (PSp X.K 2 m)) (hr : RoomG (k + 1) X.A) (hb : Binds X.K fd ps []) : OA X W (compareOp .NotEq) (neW c m) := by
  obtain ⟨r, p, q⟩ := OA.ne (X := X) (W := W) hu
  refine ⟨_, p.or (op_neOwn E hu M Fn hr hb), fun G σ H F ρ x y dx dy Q S rx ry hg => ?_⟩
  cases dx with
  | obj c' ns ds =>
    cases rx with
    | @obj a dxx _ _ vs fs _ h1 h2 h3 h4 =>
      have gg : Good X.K G W σ F ((if c' = c ∧ rtO c dy = true then nboolR (m [.obj c' ns ds, dy]) else .stuck).lift ρ) (PD X.K Q) := hg
      clear hg
      split at gg
      · rename_i hc
        obtain ⟨hc, hy⟩ := hc
        subst hc
        refine .inr ⟨_, _, _, rfl, S.sub _ _ h1, rtO_ty S.sub ry hy, rfl, F, [.obj c' ns ds, dy], S.pre, .cons (.obj h1 h2 h3 h4) (.cons ry .nil), ?_⟩
        rcases boolR_cases (m [.obj c' ns ds, dy]) with ⟨r, hm⟩ | z
        · rw [hm] at gg
          exact goodF0 S (fun d e v H' F' S' s' rv => by
            rw [hm] at e
            cases e
            cases rv
            exact ⟨r, rfl, gg H' F' S' s' _ (.bl _)⟩) ⟨_, hm⟩
        · first | rw [z.1] at gg | rw [z.2] at gg
          exact gg.elim
      · exact gg.elim
  | _ => exact .inl (q G σ H F ρ x y _ dy Q S rx ry hg)
/-- len by an own __len__ -/
def natR : FR D → FR D
  | .ok (.int n) => if 0 ≤ n ∧ n < 2 ^ 63 then .ok (.int n) else .stuck
  | _ => .stuck
theorem natR_ok {r : FR D} {ρ : Ro} {K : PySem.W.Frag} {G : Ent} {σ : L2.St} {F : Hp} {T : D → Ro → Hp → Hp → Prop} (g : Good K G W σ F ((natR r).lift ρ) T) : ∃ n : Int, r = .ok (.int n) ∧ (0 ≤ n ∧ n < 2 ^ 63) ∧ natR r = .ok (.int n) := by
  cases r with
  | ok x => cases x with
    | int n =>
      by_cases h : 0 ≤ n ∧ n < 2 ^ 63
      · exact ⟨n, rfl, h, if_pos h⟩
      · have e : natR (.ok (.int n)) = .stuck := if_neg h
        rw [e] at g
        exact g.elim
    | _ => exact g.elim
  | _ => exact g.elim
def lenW (c : Str) (m : List D → FR D) : List D → FR D
  | [.obj c' ns ds] => if c' = c then natR (m [.obj c' ns ds]) else .stuck
  | l => lenD l
theorem CallR.or {f : Value} {r r' : List V → Hp → VK → Prop} (h : CallR X f r) (h' : CallR X f r') : CallR X f fun xs H Q => r xs H Q ∨ r' xs H Q := by
  intro pins s σ H xs us Q I rs q
  rcases q with q | q
  · exact h pins s σ H xs us Q I rs q
  · exact h' pins s σ H xs us Q I rs q
theorem CA.lenW (M : Meth X.K (He.ga X.K c) "__len__" f) (Fn : FnG X.prog X.w X.K X.mg X.base k f fd ps (PSp X.K 1 m)) (hr : RoomG (k + 1) X.A) (hb : Binds X.K fd ps []) : CA X W (.builtin "len") (lenW c m) := by
  obtain ⟨r, p, q⟩ := CA.len (X := X) (W := W)
  refine ⟨_, CallR.or p (call_lenOwn M Fn hr hb), fun G σ H F ρ vs ds Q S rs hg => ?_⟩
  by_cases ho : ∃ c' ns xs, ds = [.obj c' ns xs]
  · obtain ⟨c', ns, xs, rfl⟩ := ho
    obtain ⟨v, rfl, rv⟩ := reps1 rs
    cases rv with
    | @obj a dxx _ _ vs fs _ h1 h2 h3 h4 =>
      have gg : Good X.K G W σ F ((if c' = c then natR (m [.obj c' ns xs]) else .stuck).lift ρ) (PD X.K Q) := hg
      clear hg
      split at gg
      · rename_i hc
        subst hc
        obtain ⟨n, hm, hn, e⟩ := natR_ok gg
        rw [e] at gg
        refine .inr ⟨_, _, _, rfl, S.sub _ _ h1, rfl, F, [.obj c' ns xs], S.pre, .cons (.obj h1 h2 h3 h4) .nil, ?_⟩
        exact goodF0 S (fun d e v H' F' S' s' rv => by
            rw [hm] at e
            cases e
            cases rv
            exact ⟨n, rfl, hn, gg H' F' S' s' _ (.int _)⟩) ⟨_, hm⟩
      · exact gg.elim
  · have e : Mr.lenW c m ds = lenD ds := by
      unfold Mr.lenW
      split
      · rename_i c' ns xs; exact absurd ⟨c', ns, xs, rfl⟩ ho
      · rfl
    rw [e] at hg
    exact .inl (q G σ H F ρ vs ds Q S rs hg)
/-- [] by an own __getitem__ -/
def ixW (c : Str) (m : List D → FR D) (a b : D) : FR D := match a with
  | .obj c' ns ds => if c' = c then noxF (m [.obj c' ns ds, b]) else .stuck
  | _ => ixD a b
theorem ix_plain : ∃ r : R2, IxR X r ∧ ∀ (G : Ent) σ H F ρ (x y : V) (dx dy : D) (Q : VK), Stt X.K G σ H F ρ → Rep X.K F x dx → Rep X.K F y dy → Good X.K G W σ F ((ixD dx dy).lift ρ) (PD X.K Q) → r x y H Q := by
  refine ⟨_, IxR.or ix_list (IxR.or ix_tup ix_str), fun G σ H F ρ x y dx dy Q S2 r1 r2 g2 => ?_⟩
  cases r2 with
  | int i =>
    cases r1 with
    | str x =>
      simp only [ixD] at g2
      split at g2
      · rename_i hz
        split at g2
        · rename_i c hc
          exact .inr (.inr ⟨x, i, c, rfl, rfl, hz, hc, g2 H F S2 Sm.refl _ (.str _)⟩)
        · exact g2.elim
      · exact g2.elim
    | tup hx rx =>
      simp only [ixD] at g2
      split at g2
      · rename_i d hd
        obtain ⟨w, e1, rw_⟩ := reps_at rx hd
        exact .inr (.inl ⟨_, _, i, w, rfl, rfl, SqTm S2.sub hx, e1, g2 H F S2 Sm.refl _ rw_⟩)
      · exact g2.elim
    | lst hx rx =>
      simp only [ixD] at g2
      split at g2
      · rename_i d hd
        obtain ⟨w, e1, rw_⟩ := reps_at rx hd
        exact .inl ⟨_, _, i, w, rfl, rfl, .of (S2.sub _ _ hx), e1, g2 H F S2 Sm.refl _ rw_⟩
      · exact g2.elim
    | frz hx rx =>
      simp only [ixD] at g2
      split at g2
      · rename_i d hd
        obtain ⟨w, e1, rw_⟩ := reps_at rx hd
        exact .inl ⟨_, _, i, w, rfl, rfl, SqLm S2.sub hx, e1, g2 H F S2 Sm.refl _ rw_⟩
      · exact g2.elim
    | _ => exact g2.elim
  | _ => exact (by cases dx <;> exact g2.elim)
theorem AE.ixW {a b : Expr} {fa fb : M D} {pos : Pos} (M : Meth X.K (He.ga X.K c) "__getitem__" f) (hfn : PySem.W.fnIn X.K f = true) (Fn : FnG X.prog X.w X.K X.mg X.base k f fd ps (PSp X.K 2 m)) (hr : RoomG (k + 1) X.A) (hb' : Binds X.K fd ps []) (ha : AE X W a fa) (hb : AE X W b fb) (hs : PlainIx b := by exact fun _ _ => rfl) (ho : PlainIxO b := by exact fun _ _ => rfl) : AE X W (.Subscript a b pos) (m2 (ixW c m) fa fb) := by
  obtain ⟨ta, pa, qa⟩ := ha
  obtain ⟨tb, pb, qb⟩ := hb
  obtain ⟨r, p, q⟩ := ix_plain (X := X) (W := W)
  refine ⟨_, pe_ixO (IxO.or (Mr.IxR.ixO p) (ix_own M hfn Fn hr hb')) pa pb hs ho, fun G σ H F ρ Q S hg => qa G σ H F ρ _ S (hg.bind fun dx ρ1 H1 F1 S1 s1 g1 v r1 => qb G σ H1 F1 ρ1 _ S1 (g1.bind fun dy ρ2 H2 F2 S2 s2 g2 u r2 => ?_))⟩
  have r1 := r1.mono s2
  cases dx with
  | obj c' ns ds =>
    cases r1 with
    | @obj a dxx _ _ vs fs _ h1 h2 h3 h4 =>
      have gg : Good X.K G W σ F2 ((if c' = c then noxF (m [.obj c' ns ds, dy]) else .stuck).lift ρ2) (PD X.K Q) := g2
      clear g2
      split at gg
      · rename_i hc
        subst hc
        exact .inr ⟨_, _, _, rfl, S2.sub _ _ h1, rfl, F2, [.obj c' ns ds, dy], S2.pre, .cons (.obj h1 h2 h3 h4) (.cons r2 .nil), noxF_ok S2 gg⟩
      · exact gg.elim
  | _ => exact .inl (q G σ H2 F2 ρ2 v u _ dy Q S2 r1 r2 g2)
end
section
open Builtin Builtin.Str
variable {prog : Program} {w : World}
theorem str_new_in (v : Value) : MeetsIn prog w (Builtin.«str.__new__» ⟨[.type "str", v], []⟩) (fun A R s => wpAny (model prog w) A.in1 (Builtin.Str.strOf v) (fun r s' => R (.ok (.ret r)) s') (fun e s' => R (.error e) s') s) :=
  .of_wp fun A R s h => by
    rw [str_new_tree v]
    refine wpAny_bind (wpAny_pure ?_)
    refine wpAny_bind (wpAny_of_eq isSubtype_str_str ?_)
    exact wpAny_bind (wpAny_mono h (fun r s' h' => wpAny_pure ⟨_, rfl, h'⟩) fun _ _ e => e)
theorem strOf_own {A : Around} {E : Value → Shared → Prop} {s : Shared} {K : PySem.W.Frag} {x C f : Addr} {ox : Obj} {od : Option Obj} {Q : Value → Shared → Prop} (hu : A.units < cLine) (X : K.In s.heap) (I : PySem.W.InstAt s.heap x ox C od)
    (hs : PySem.W.findIn K (.ref C) "__str__" = some (some (.ref f))) (hf : PySem.W.isFn K (.ref f) = true) (h : wpAny (model prog w) A (call (.ref f) [.ref x]) (fun v s' => ∃ z t, v = .str z t ∧ Q (.str z t) s') E s) :
    wpAny (model prog w) A (Builtin.Str.strOf (.ref x)) Q E s := by
  unfold Builtin.Str.strOf
  rw [show isExactStr (.ref x) = false from rfl]
  simp only [Bool.false_eq_true, if_false]
  refine wpAny_bind (wpAny_cRoomFor hu ?_)
  refine wpAny_bind (m := callSpecial? (.ref x) (Str.ofString "__str__")) (PySem.W.special_fn X I hs (beq_iff_eq.mp hf) (wpAny_mono h (fun r s' hr => ?_) fun _ _ y => y))
  obtain ⟨z, t, rfl, q⟩ := hr
  exact wpAny_bind (wpAny_pure (wpAny_pure q))
variable {X : Cx} {W : WX} {k : Nat} {f : Addr} {fd : FuncData} {ps : List Str} {sp : Sp} {c : Str} {m : List D → FR D}
def rOwnStr (C : Addr) (sp : Sp) : List V → Hp → VK → Prop := fun xs H Q => ∃ a dx fs, xs = [.ref a] ∧ H a = some (.ins C dx fs) ∧ sp [.ref a] H (fun v H' => ∃ z : Str, v = .str z ∧ Q (.str z) H') E0F
theorem call_strOwn {C : Addr} (hu : X.A.units + 64 < cLine) (M : Meth X.K C "__str__" f) (F : FnG X.prog X.w X.K X.mg X.base k f fd ps sp) (hr : RoomG (k + 2) X.A) (hb : Binds X.K fd ps []) : CallR X (.type "str") (rOwnStr C sp) := by
  intro pins s σ H xs us Q I r h
  obtain ⟨a, dx, fs, rfl, ea, hs⟩ := h
  obtain ⟨u, rfl, ru⟩ : ∃ u, us = [u] ∧ RelV (.ref a) u := by
    cases r with
    | cons r1 rr => cases rr; exact ⟨_, rfl, r1⟩
  obtain rfl : u = Value.ref a := ru
  obtain ⟨mA, J, _⟩ := ins_get I.hok ea
  obtain ⟨od, J, _⟩ := J.look
  have room : RoomG k X.A.in1.in1 := ⟨hr.r.in1.in1, hr.g⟩
  refine callType_newIn PySem.F.called_str (by decide) (PySem.F.typeCall_str_1 _) (PySem.F.newCall_str_1 _) (fun obj => PySem.F.args_object_init_2 obj _) PySem.F.entry_str_new (str_new_in _) ?_
  refine strOf_own (A := X.A.in1.in1) (by show X.A.units + 1 + 1 < cLine; omega) I.kIn J M.at_ M.fn (wpAny_mono (run_in (us := [.ref a]) (vs := [.ref a]) room I.env0.in1.in1 F hb I (.cons rfl .nil) hs) (fun r s' q => ?_) fun _ _ z => z)
  obtain ⟨w, H', I', rw_, z, e, q⟩ := q
  subst e
  obtain ⟨t, rfl⟩ := rw_
  exact ⟨z, t, rfl, typeIs_str _ _ _, .str z, H', I', ⟨_, rfl⟩, q⟩
def strR : FR D → FR D
  | .ok (.str z) => .ok (.str z)
  | _ => .stuck
theorem strR_ok {r : FR D} {ρ : Ro} {K : PySem.W.Frag} {G : Ent} {σ : L2.St} {F : Hp} {T : D → Ro → Hp → Hp → Prop} (g : Good K G W σ F ((strR r).lift ρ) T) : ∃ z : Str, r = .ok (.str z) := by
  cases r with
  | ok x => cases x with
    | str n => exact ⟨n, rfl⟩
    | _ => exact g.elim
  | _ => exact g.elim
def strW (c : Str) (m : List D → FR D) : List D → FR D
  | [.obj c' ns ds] => if c' = c then strR (m [.obj c' ns ds]) else .stuck
  | l => strD l
theorem CA.strW (hu : X.A.units + 64 < cLine) (M : Meth X.K (He.ga X.K c) "__str__" f) (Fn : FnG X.prog X.w X.K X.mg X.base k f fd ps (PSp X.K 1 m)) (hr : RoomG (k + 2) X.A) (hb : Binds X.K fd ps []) : CA X W (.type "str") (strW c m) := by
  obtain ⟨r, p, q⟩ := CA.str (X := X) (W := W)
  refine ⟨_, CallR.or p (call_strOwn hu M Fn hr hb), fun G σ H F ρ vs ds Q S rs hg => ?_⟩
  by_cases ho : ∃ c' ns xs, ds = [.obj c' ns xs]
  · obtain ⟨c', ns, xs, rfl⟩ := ho
    obtain ⟨v, rfl, rv⟩ := reps1 rs
    cases rv with
    | @obj a dxx _ _ vs fs _ h1 h2 h3 h4 =>
      have gg : Good X.K G W σ F ((if c' = c then strR (m [.obj c' ns xs]) else .stuck).lift ρ) (PD X.K Q) := hg
      clear hg
      split at gg
      · rename_i hc
        subst hc
        obtain ⟨n, hm⟩ := strR_ok gg
        rw [hm] at gg
        refine .inr ⟨_, _, _, rfl, S.sub _ _ h1, rfl, F, [.obj c' ns xs], S.pre, .cons (.obj h1 h2 h3 h4) .nil, ?_⟩
        exact goodF0 S (fun d e v H' F' S' s' rv => by
            rw [hm] at e
            cases e
            cases rv
            exact ⟨n, rfl, gg H' F' S' s' _ (.str _)⟩) ⟨_, hm⟩
      · exact gg.elim
  · have e : Mr.strW c m ds = strD ds := by
      unfold Mr.strW
      split
      · rename_i c' ns xs; exact absurd ⟨c', ns, xs, rfl⟩ ho
      · rfl
    rw [e] at hg
    exact .inl (q G σ H F ρ vs ds Q S rs hg)
end
section
variable {X : Cx} {W : WX} {e : Expr} {es : List Expr} {fe : M D} {pos : Pos}
def fmtD : D → FR D
  | .str y => if y.length ≤ sizeLine then .ok (.str y) else .stuck
  | .int i => if i.natAbs.log2 < 1920 then .ok (.str (toString i)) else .stuck
  | _ => .stuck
theorem AE.fmt (he : AE X W e fe) : AE X W (.FormattedValue e (-1) none pos) (m1 fmtD fe) := by
  obtain ⟨t, pe, qe⟩ := he
  refine ⟨_, pe_fmt pe, fun G σ H F ρ Q S hg => qe G σ H F ρ _ S (hg.bind fun d ρ1 H1 F1 S1 s1 g1 v r1 => ?_)⟩
  cases r1 with
  | str y =>
    simp only [fmtD] at g1
    split at g1
    · rename_i hz; exact .inl ⟨y, rfl, hz, g1 H1 F1 S1 Sm.refl _ (.str _)⟩
    · exact g1.elim
  | int i =>
    simp only [fmtD] at g1
    split at g1
    · rename_i hz; exact .inr ⟨i, rfl, hz, g1 H1 F1 S1 Sm.refl _ (.str _)⟩
    · exact g1.elim
  | _ => exact g1.elim
def AJ (X : Cx) (W : WX) (es : List Expr) (g : Str → M D) : Prop := ∃ ts, PJ X es ts ∧ ∀ acc G σ H F ρ Q, Stt X.K G σ H F ρ → Good X.K G W σ F (g acc ρ) (PD X.K Q) → tJs ts acc σ H fun out H1 => Q (.str out) H1
def jNil : Str → M D := fun acc => mC (.str acc)
def jCons (f : M D) (r : Str → M D) : Str → M D := fun acc ρ => (f ρ).bind fun d ρ => match d with
  | .str y => if (acc ++ y).length ≤ sizeLine then r (acc ++ y) ρ else .stuck
  | _ => .stuck
theorem AJ.nil : AJ X W [] jNil := ⟨[], .nil, fun acc G σ H F ρ Q S hg => hg H F S Sm.refl _ (.str _)⟩
theorem AJ.cons {g : Str → M D} (he : AE X W e fe) (h : AJ X W es g) : AJ X W (e :: es) (jCons fe g) := by
  obtain ⟨t, pe, qe⟩ := he
  obtain ⟨ts, pj, qj⟩ := h
  refine ⟨t :: ts, .cons pe pj, fun acc G σ H F ρ Q S hg => qe G σ H F ρ _ S (hg.bind fun d ρ1 H1 F1 S1 s1 g1 v r1 => ?_)⟩
  cases r1 with
  | str y =>
    have g2 : Good X.K G W σ F1 (if (acc ++ y).length ≤ sizeLine then g (acc ++ y) ρ1 else .stuck) (PD X.K Q) := g1
    split at g2
    · rename_i hz; exact ⟨y, rfl, hz, qj _ G σ H1 F1 ρ1 Q S1 g2⟩
    · exact g2.elim
  | _ => exact g1.elim
def mFstr (g : Str → M D) : M D := g Str.empty
theorem AE.fstr {v1 v2 : Expr} {rest : List Expr} {g : Str → M D} (h : AJ X W (v1 :: v2 :: rest) g) : AE X W (.JoinedStr (v1 :: v2 :: rest) pos) (mFstr g) := by
  obtain ⟨ts, pj, qj⟩ := h
  exact ⟨_, pe_joined pj, fun G σ H F ρ Q S hg => qj _ G σ H F ρ Q S hg⟩
end
end Mr
namespace Mr
open PySem PySem.Spec PyProof.Rows L2
variable [Lam] [Pins]
section
variable {X : Cx} {W : WX} {e a b : Expr} {fa fb : M D} {fs : M (List D)} {pos py : Pos} {x y : Str}
/-- an expression that gives a new dict -/
def AND (X : Cx) (W : WX) (e : Expr) (f : M (List Key × List D)) : Prop := ∃ t, PE X e t ∧ ∀ G σ H F ρ Q, Stt X.K G σ H F ρ →
  Good X.K G W σ F (f ρ) (fun kd ρ' H' F' => ∀ a vs H2, Stt X.K ⟨G.H0, G.F0, G.io, (a, .dK (kd.1.zip vs)) :: G.xt⟩ σ H2 F' ρ' → kd.1.length = vs.length → Reps X.K F' vs kd.2 → Q (.ref a) H2) → t σ H Q
def mD0 : M (List Key × List D) := fun ρ => .ok ([], []) ρ
theorem AND.empty : AND X W (.Dict [] [] pos) mD0 := by
  refine ⟨_, pe_dnewK, fun G σ H F ρ Q S hg p np => ?_⟩
  exact hg H F S Sm.refl p [] _ (S.xtNew np) rfl .nil
def mDictN (ks : List Key) (fs : M (List D)) : M (List Key × List D) := fun ρ => (fs ρ).bind fun ds ρ => if ds.length = ks.length then .ok (ks, ds) ρ else .stuck
/-- x = a new dict, changed later -/
def xOwnD (i : Nat) (f : M (List Key × List D)) : M Fl := fun ρ => (f ρ).bind fun kd ρ => if (ρ.getD i .un).isIo = true then .stuck else .ok .nx (ρ.set i (.dic false kd.1 kd.2))
theorem AS.ownD {i : Nat} {f : M (List Key × List D)} {pos' : Pos} (hN : X.N.Nodup) (hi : X.N[i]? = some x) (hx : Loc X.env.scope x) (he : AND X W e f) (hs : swapsWith e (some (.Name x pos')) pos.line X.env = pure false := by rfl) (hf : X.fn x = true ∨ X.env.scope.names.lookup x = some .local := by first | exact .inl rfl | exact .inr rfl) :
    AS X W (.Assign [.Name x pos'] e pos) (xOwnD i f) := by
  obtain ⟨t, p, q⟩ := he
  refine ⟨_, ps_set hN hi hx p hs hf, fun G σ H F ρ Dn S hg => q G σ H F ρ _ S (GoodS.bind hg fun ds ρ1 H1 F1 S1 s1 g1 a vs H2 S2 l r => ?_)⟩
  split at g1
  · exact g1.elim
  · rename_i hh
    obtain ⟨e1, e2, _, _⟩ := S2.xt (a, .dK (ds.1.zip vs)) (List.mem_cons_self ..)
    exact g1 _ H2 F1 (S2.xtSlot (by simpa using hh) ⟨a, vs, rfl, e1, l, e2, r⟩ rfl) Sm.refl
theorem dic_at {K : PySem.W.Frag} {G : Ent} {σ : L2.St} {H F : Hp} {ρ : Ro} {j : Nat} {p : Bool} {ks : List Key} {ds : List D} (S : Stt K G σ H F ρ) (h : ρ.getD j .un = .dic p ks ds) : ∃ a vs, σ[j]? = some (some (V.ref a)) ∧ H a = some (.dK (ks.zip vs)) ∧ ks.length = vs.length ∧ F a = none ∧ Reps K F vs ds := by
  have q := S.at_ j
  rw [h] at q
  exact q
/-- d[k] = v -/
def xDSet (j : Nat) (fk fv : M D) : M Fl := fun ρ => (fv ρ).bind fun v ρ => match ρ.getD j .un with
  | .dic _ _ _ => (fk ρ).bind fun kd ρ => match ρ.getD j .un, keyD kd with
    | .dic p ks ds, some k => if ks.length < sizeLine then .ok .nx (ρ.set j (.dic p (setKs k ks) (setVs k v ks ds))) else .stuck
    | _, _ => .stuck
  | _ => .stuck
theorem AS.dset {j : Nat} {ev : Expr} {fv : M D} {p1 : Pos} (hu : X.A.units + 64 < cLine) (hv : AE X W ev fv) (h0 : PE X (.Name y py) (tVar j)) (hb : AE X W b fb) (hs : swapsWith ev (some (.Subscript (.Name y py) b p1)) pos.line X.env = pure false := by rfl) :
    AS X W (.Assign [.Subscript (.Name y py) b p1] ev pos) (xDSet j fb fv) := by
  obtain ⟨tv, pv, qv⟩ := hv
  obtain ⟨tb, pb, qb⟩ := hb
  refine ⟨_, ps_dput (by omega) h0 pb pv hs, fun G σ H F ρ Dn S hg => qv G σ H F ρ _ S (GoodS.bind hg fun dv ρ1 H1 F1 S1 s1 g1 v rv => ?_)⟩
  split at g1
  · rename_i p0 ks0 ds0 e0
    obtain ⟨a, vs, e1, e2, e3, e4, r⟩ := dic_at S1 e0
    refine ⟨_, e1, qb G σ H1 F1 ρ1 _ S1 (GoodS.bind g1 fun di ρ2 H2 F2 S2 s2 g2 u ru => ?_)⟩
    split at g2
    · rename_i p1 ks ds k f0 hk
      obtain ⟨a', ws, f1, f2, f3, f4, r'⟩ := dic_at S2 f0
      rw [e1] at f1; cases f1
      split at g2
      · rename_i hl
        have ek := keyD_v ru hk
        refine ⟨a, _, rfl, by rw [ek]; exact DPut.k f2 (by rw [List.length_zip]; omega), ?_⟩
        refine g2 σ _ F2 (S2.change (by rw [f0]; rfl) e1 (S2.own_upd (by rw [f0]; rfl) e1) (fun b o h => ?_) Sm.refl (fun _ _ h => .inl h) S2.ft ⟨a, setVs k v ks ws, rfl, by rw [put_zip f3]; exact upd_same, set_len f3, f4, set_reps (rv.mono s2) r'⟩ rfl (by rw [f0]; rfl)) Sm.refl
        by_cases eb : b = a
        · subst eb; rw [f4] at h; cases h
        · rw [upd_ne eb]; exact S2.sub b o h
      · exact g2.elim
    · exact g2.elim
  · exact g1.elim
theorem AND.dict {keys : List (Option Expr)} {es : List Expr} {ks : List Key} (hp : AP X W pos keys es ks fs) (hn : ks.Nodup) (h0 : keys ≠ []) (h15 : keys.length ≤ 15) : AND X W (.Dict keys es pos) (mDictN ks fs) := by
  obtain ⟨trs, pp, l1, l2, l3, qp⟩ := hp
  refine ⟨_, pe_disp pp l3 (l1.trans l2.symm) h0 h15, fun G σ H F ρ Q S hg p np => ?_⟩
  have S0 : Stt X.K ⟨G.H0, G.F0, G.io, (p, .dK []) :: G.xt⟩ σ (upd H p (.dK [])) F ρ := S.xtNew np
  refine qp _ σ _ F ρ _ S0 ?_
  unfold mDictN at hg
  cases ef : fs ρ with
  | stuck => rw [ef] at hg; exact hg.elim
  | exc x ρ1 =>
    rw [ef] at hg
    exact fun d H' F' S1 s1 x1 => hg d H' (upd F' p (.dK [])) (S1.xtFreeze).1 (s1.tr S1.xtFreeze.2) (by
      rcases x1 with x1 | ⟨dd, vs, e1, e2, e3⟩
      · exact .inl x1
      · exact .inr ⟨dd, vs, e1, S1.xtFreeze.2 _ _ e2, e3.mono S1.xtFreeze.2⟩)
  | ok ds ρ1 =>
    rw [ef, show ((R.ok ds ρ1).bind fun ds ρ => if ds.length = ks.length then R.ok (ks, ds) ρ else .stuck) = (if ds.length = ks.length then R.ok (ks, ds) ρ1 else .stuck) from rfl] at hg
    split at hg
    · rename_i hl
      intro H' F' S1 s1 vs rv
      have lv : vs.length = ks.length := rv.length.trans hl
      refine ⟨⟨(S1.xt (p, .dK []) (List.mem_cons_self ..)).1, ks.zip vs, rfl, by rw [List.length_zip]; omega, ?_⟩, lv⟩
      have em : mergeK [] (ks.zip vs) = ks.zip vs := by
        rw [merge_nodup _ [] (by rw [List.nil_append, List.map_fst_zip (by omega)]; exact hn)]; rfl
      rw [em]
      exact hg H' F' S1.xtDrop s1 p vs _ (S1.xtUpd (o' := .dK (ks.zip vs))) lv.symm rv
    · exact hg.elim
end
end Mr
namespace Mr
open PySem
/-- what a built-in class's own __init__ must be -/
structure IniF (B i : String) : Prop where
  plain : plainId i = true
  entry : entryFor table i = some Builtin.«BaseException.__init__»
  kind : builtinKind i = some .slot
  row : Manifest.signature? i = some ⟨.positional, "*", B, .self, [⟨"args", .varPos, false⟩]⟩
  noStar : (B != "*") = true
/-- a class that is made by the __new__ of Bn -/
structure NewF (Bn newId inN : String) (bmN bm : List Value) : Prop where
  fn : ExcBaseFacts Bn newId inN bmN
  has : bm.contains (.type Bn) = true
  noA : bm.contains (.type "AttributeError") = false
  noN : bm.contains (.type "NameError") = false
section
variable {prog : Program} {w : World} {A : Around} {E : Value → Shared → Prop} {R : Result → Shared → Prop} {h : Heap} {g : Array GenState} {d : Drawn} {t : Nat} {os : OsState}
variable {nm q : Str} {C N : Addr} {bs bm bmB bmN : List Value} {hdct : Bool} {sn : List Str} {sub : List Value} {ab : Bool} {col : Option Bool} {dd : Option Addr} {k0 k1 k2 k3 k5 : Option Value} {Bn newId inN : String}
theorem new_passes (F : NewF Bn newId inN bmN bmB) (hT : ∀ X : String, bm.contains (.type X) = bmB.contains (.type X)) {M : Model} {rest : List Value} {Q : Unit → Shared → Prop}
    (hC : h.get? C = some (excClassObj nm q C N bs bm hdct sn sub ab col dd k0 k1 k2 k3 k5 newId)) (hq : Q () ⟨h, g, d, t, os⟩) : wpAny M A (checkBuiltinCall newId ⟨.ref C :: rest, []⟩) Q E ⟨h, g, d, t, os⟩ := by
  have has : (Value.ref C :: bm).contains (.type Bn) = true := by rw [List.contains_cons, hT, F.has, Bool.or_true]
  have star := F.fn.noStar
  simp only [checkBuiltinCall, F.fn.newKind, F.fn.newSplit, F.fn.newRow]
  repeat (first | refine wpAny_loadPart_at hC ?_ | (refine wpAny_isSubtype_exc hC ?_; rw [has]) | refine wpAny_staticBase_exc hC ?_ | refine wpAny_madeBy_exc hC ?_ | simp only [bne_self_eq_false, Bool.false_eq_true, if_false] | wp_step)
  exact hq
theorem new_makes (F : NewF Bn newId inN bmN bmB) (hT : ∀ X : String, bm.contains (.type X) = bmB.contains (.type X)) {rest : List Value}
    (hC : h.get? C = some (excClassObj nm q C N bs bm hdct sn sub ab col dd k0 k1 k2 k3 k5 newId)) (hz : rest.length ≤ sizeLine)
    (hq : R (.ok (.ret (.ref (h.objs.size + 1)))) ⟨(h.push (PySem.W.kdv_tup rest)).push (PySem.PX.excO C h.objs.size), g, d, t, os⟩) :
    codeAny (model prog w) A (.builtin newId ⟨.ref C :: rest, []⟩) R ⟨h, g, d, t, os⟩ := by
  have hends := F.fn.ends
  have has : (Value.ref C :: bm).contains (.type Bn) = true := by rw [List.contains_cons, hT, F.has, Bool.or_true]
  have noA : (Value.ref C :: bm).contains (.type "AttributeError") = false := by rw [List.contains_cons, hT, F.noA]; rfl
  have noN : (Value.ref C :: bm).contains (.type "NameError") = false := by rw [List.contains_cons, hT, F.noN]; rfl
  refine codeAny_builtinAt F.fn.entry ?_
  unfold Builtin.«BaseException.__new__»
  refine wpAt_bind ?_
  show wpAt _ _ _ (stack >>= _) _ _ _
  refine wpAt_bind (wpAt_stack fun p below => wpAt_of_wpAny ?_)
  wp_walk
  refine wpAt_of_wpAny ?_
  rw [F.fn.owner]
  repeat (first | with_reducible refine wpAny_madeHere_exc F.fn.canon hC ?_ | with_reducible refine wpAny_loadPart_at hC ?_ | (with_reducible refine wpAny_isSubtype_exc hC ?_; first | rw [has] | rw [noA] | rw [noN]) | wp_step)
  show R _ _
  rw [Heap.size_push]
  exact hq
theorem type_makes (F : NewF Bn newId inN bmN bmB) (hT : ∀ X : String, bm.contains (.type X) = bmB.contains (.type X)) {rest : List Value} {fI : Addr} {Q : Fin → Shared → Prop}
    (hC : h.get? C = some (excClassObj nm q C N bs bm hdct sn sub ab col dd k0 k1 k2 k3 k5 newId))
    (hi : PySem.W.Looks (model prog w) h (typeLookup (.ref C) "__init__") (some (.ref fI))) (hb : ∀ self, PySem.W.Looks (model prog w) h (bindSpecial (.ref fI) self) (.ref fI, [self])) (hz : rest.length ≤ sizeLine)
    (hq : codeAny (model prog w) A (.call (.ref fI) ⟨.ref (h.objs.size + 1) :: rest, []⟩)
      (fun r s' => match r with | .ok (.ret v) => v = .none ∧ Q (.done (.ret (.ref (h.objs.size + 1)))) s' | .ok _ => False | .error e => E e s')
      ⟨(h.push (PySem.W.kdv_tup rest)).push (PySem.PX.excO C h.objs.size), g, d, t, os⟩) :
    wpAny (model prog w) A (Builtin.«type.__call__» ⟨.ref C :: rest, []⟩) Q E ⟨h, g, d, t, os⟩ := by
  repeat (first | with_reducible refine wpAny_loadPart_at hC ?_ | with_reducible refine wpAny_madeBy_exc hC ?_ | wp_step)
  refine codeAny_call_builtin_code (Code.quiet_builtin _ F.fn.quiet) (new_passes F hT hC ?_)
  refine new_makes F hT hC hz ?_
  show wpAny _ _ _ _ _ _
  have k : ∀ b o, h.get? b = some o → ((h.push (PySem.W.kdv_tup rest)).push (PySem.PX.excO C h.objs.size)).get? b = some o := fun b o e => Heap.get?_push_of_some _ (Heap.get?_push_of_some _ e)
  have hC2 := k _ _ hC
  have hget : ((h.push (PySem.W.kdv_tup rest)).push (PySem.PX.excO C h.objs.size)).get? (h.objs.size + 1) = some (PySem.PX.excO C h.objs.size) := by heap_get
  have slf : (Value.ref C :: bm).contains (.ref C) = true := by simp
  have i1 := hi.keeps k
  have b1 := (hb (.ref (h.objs.size + 1))).keeps k
  unfold isInstance
  repeat (first | with_reducible refine wpAny_loadPart_at hget ?_ | (with_reducible refine wpAny_isSubtype_exc hC2 ?_; rw [slf]) | wp_step)
  show wpAny _ _ (typeLookup (.ref C) _) _ _ _
  refine i1.at ?_
  refine wpAny_holding (wpAny_bind (b1.at ?_))
  refine wpAny_bind (wpAny_call (codeAny_mono hq fun r s' z => ?_))
  rcases r with e | (v | _ | _ | _) <;> first | exact z | exact z.elim | skip
  obtain ⟨rfl, z⟩ := z
  first
    | exact wpAny_pure (wpAny_pure z)
    | (wp_walk; exact z)
theorem call_makes (F : NewF Bn newId inN bmN bmB) (hT : ∀ X : String, bm.contains (.type X) = bmB.contains (.type X)) {rest : List Value} {fI : Addr}
    (hC : h.get? C = some (excClassObj nm q C N bs bm hdct sn sub ab col dd k0 k1 k2 k3 k5 newId))
    (hi : PySem.W.Looks (model prog w) h (typeLookup (.ref C) "__init__") (some (.ref fI))) (hb : ∀ self, PySem.W.Looks (model prog w) h (bindSpecial (.ref fI) self) (.ref fI, [self])) (hz : rest.length ≤ sizeLine)
    (hq : codeAny (model prog w) (A.under (.builtin "type.__call__" ⟨.ref C :: rest, []⟩)) (.call (.ref fI) ⟨.ref (h.objs.size + 1) :: rest, []⟩) (PySem.W.InitBack (h.objs.size + 1) R)
      ⟨(h.push (PySem.W.kdv_tup rest)).push (PySem.PX.excO C h.objs.size), g, d, t, os⟩) :
    codeAny (model prog w) A (.call (.ref C) ⟨rest, []⟩) R ⟨h, g, d, t, os⟩ := by
  have f1 := tc_lookup
  have f2 := tc_bind (.ref C)
  have hTy : (⟨h, g, d, t, os⟩ : Shared).TypeIs (.ref C) "type" := ⟨_, hC, rfl⟩
  refine codeAny_of_tree ?_
  show wpAny _ _ (callAny (.ref C) _) _ _ _
  repeat (any_goals (first | assumption | with_reducible refine wpAny_loadPart_at hC ?_ | wp_step))
  refine ⟨rfl, ?_⟩
  refine codeAny_call_builtin_at (Code.quiet_builtin _ (by decide +kernel)) entry_typeCall (wpAny_check_type_call_sub hC (type_makes F hT hC hi hb hz ?_))
  refine codeAny_mono hq fun r s' z => ?_
  rcases r with e | (v | _ | _ | _) <;> exact z
end
section
open PySem.W PyProof.Rows
variable {prog : Program} {w : World} {A : Around} {E : Value → Shared → Prop} {s : Shared} {h₀ : Heap} {L : Addr} {m : Str → Option Value} {news : List (Addr × Obj)} {K : Frag} {x C u : Addr} {B i newId : String} {bmB : List Value}
theorem bound_passes (F : IniF B i) {h : Heap} {g : Array GenState} {d : Drawn} {t : Nat} {os : OsState} {nm q : Str} {N e : Addr} {oe : Obj} {bs bm : List Value} {hdct : Bool} {sn : List Str} {sub : List Value} {ab : Bool} {col : Option Bool} {dd : Option Addr} {k0 k1 k2 k3 k5 : Option Value} {M : Model} {rest : List Value} {Q : Unit → Shared → Prop}
    (hC : h.get? C = some (excClassObj nm q C N bs bm hdct sn sub ab col dd k0 k1 k2 k3 k5 newId)) (he : h.get? e = some oe) (hcls : oe.cls = .ref C) (hq : Q () ⟨h, g, d, t, os⟩) : wpAny M A (checkBoundCall i ⟨.ref e :: rest, []⟩) Q E ⟨h, g, d, t, os⟩ := by
  have star := F.noStar
  simp only [checkBoundCall, F.kind, F.row]
  repeat (first | (with_reducible refine wpAny_loadPart_at he ?_; rw [hcls]) | with_reducible refine wpAny_loadPart_at hC ?_ | wp_step)
  refine wpAny_onRaise ?_
  rw [show ∀ (a b : String) (n : Nat), Bind.check ⟨.positional, "*", B, .self, [⟨"args", .varPos, false⟩]⟩ a b n (List.map (fun x => x.fst) ({ pos := Value.ref e :: rest } : Args).kw) = pure () from
    fun a b n => check_star_args _ _ _ _ _ _]
  exact wpAny_pure hq
theorem init_makes {t : Addr} {dv : Option Addr} {c2 : Value} {rest : List Value} {nw : Obj → List (Addr × Obj)} {Q : Value → Shared → Prop} (F : Fr h₀ L s.heap m) (X₀ : K.In h₀) (N : News h₀ L s.heap news) (FI : IniF B i) (q : excInitIn K C bmB newId = true) (hm : (u, kxs_mw i x) ∈ news)
    (U : UpdF x (excObj C t dv c2) news nw) (hz : rest.length ≤ sizeLine)
    (h : ∀ t' h', Fr h₀ L h' m → News h₀ L h' ((t', excTup rest) :: nw (excObj C t' dv c2)) → (∀ p ∈ news, p.1 < t') → Q .none { s with heap := h' }) :
    wpAny (model prog w) A (call (.ref u) rest) Q E s := by
  obtain ⟨nm, N', qn, bs, bm, hdct, sn, sub, ab, col, dd, k0, k1, k2, k3, k5, hC, hT⟩ := excInit_of (X₀.keeps F.keep) q
  have hu := (N _ hm).1
  obtain ⟨pre, post, rfl, hg, a, b⟩ := U.split
  have nx := N (x, excObj C t dv c2) (by simp)
  have lt : ∀ p ∈ pre ++ (x, excObj C t dv c2) :: post, p.1 < s.heap.objs.size := fun p hp => Heap.lt_size (N p hp).1
  have fin : ∀ h', (∀ b o, b ≠ x → s.heap.get? b = some o → h'.get? b = some o) → h'.get? x = some (excObj C s.heap.objs.size dv c2) → h'.get? s.heap.objs.size = some (excTup rest) → Q .none { s with heap := h' } := fun h' k e' t' => by
    obtain ⟨oL, es, ep, hL, r⟩ := F.ns
    have xL : L ≠ x := fun z => nx.2.1 z.symm
    refine h s.heap.objs.size h' ⟨⟨oL, es, ep, k _ _ xL hL, r⟩, fun b o z => k b o (fun y => by rw [y, nx.2.2] at z; cases z) (F.keep b o z), F.above⟩ ?_ lt
    rw [hg]
    intro p hp
    rcases List.mem_cons.mp hp with rfl | hp
    · refine ⟨t', fun z => ?_, ?_⟩
      · have y := Heap.lt_size (show s.heap.get? L = some oL from hL)
        have z : s.heap.objs.size = L := z
        rw [← z] at y
        exact absurd y (Nat.lt_irrefl _)
      · cases z : h₀.get? s.heap.objs.size with
        | none => rfl
        | some o => exact absurd (Heap.lt_size (F.keep _ _ z)) (Nat.lt_irrefl _)
    rcases List.mem_append.mp hp with hp | hp
    · have y := N p (List.mem_append_left _ hp)
      exact ⟨k _ _ (a p hp) y.1, y.2⟩
    rcases List.mem_cons.mp hp with rfl | hp
    · exact ⟨e', nx.2⟩
    · have y := N p (List.mem_append_right _ (.tail _ hp))
      exact ⟨k _ _ (b p hp) y.1, y.2⟩
  obtain ⟨hh, g, d, tk, os⟩ := s
  refine wpAny_call (codeAny_of_tree ?_)
  show wpAny _ A.in1 (callAny (.ref u) ⟨rest, []⟩) _ _ _
  simp only [callAny]
  refine wpAny_bind (wpAny_load hu ?_)
  simp only [kxs_mw, show (Value.type "method-wrapper" == Value.type "method" || Value.type "method-wrapper" == Value.type "builtin_function_or_method" || Value.type "method-wrapper" == Value.type "method-wrapper") = true by decide, if_true]
  refine KFB.if_so (by decide) ?_
  refine wpAny_bind (bound_passes FI hC nx.1 rfl ?_)
  refine wpAny_bind (wpAny_pure (wpAny_pure ?_))
  refine ⟨plainId_quiet FI.plain _, codeAny_builtin FI.entry ?_⟩
  exact exc_init_tree (cls := .ref C) (t0 := t) (dv := dv) (c2 := c2) (c3 := .none) (b4 := .bool false) nx.1 hz fin
end
abbrev bmKey : List Value := [.type "KeyError", .type "LookupError", .type "Exception", .type "BaseException", .type "object"]
theorem new_Key : NewF "LookupError" "LookupError.__new__" "LookupError.__init__" [.type "LookupError", .type "Exception", .type "BaseException", .type "object"] bmKey := ⟨PySem.F.excBase_LookupError, by decide +kernel, by decide +kernel, by decide +kernel⟩
theorem ini_Key : IniF "KeyError" "KeyError.__init__" where
  plain := by decide +kernel
  entry := PyProof.Rows.excClass_KeyError.initEntry
  kind := PyProof.Rows.excClass_KeyError.initKind
  row := PyProof.Rows.excClass_KeyError.initSig
  noStar := PyProof.Rows.excClass_KeyError.notStar
theorem kxs_Key : PySem.W.KxsFacts "KeyError" "KeyError.__init__" := ⟨by show builtinType _ = _; rw [builtinType_eq_fast]; kernel_rfl, by first | kernel_rfl | rfl⟩
theorem store_Key : StoreFacts "KeyError" bmKey "object.__setattr__" "object" where
  mro := by kernel_rfl
  slot := .of (owner := "object") (n := "__setattr__") (by rw [typeLookup_type, builtinLookup_eq_fast]; kernel_rfl) (by decide +kernel) (by decide +kernel) (by decide +kernel)
    (by first | exact .inl (by decide +kernel) | exact .inr (by decide +kernel)) (by rw [isSubtype_type]; kernel_rfl)
  entry := PySem.F.store_LookupError.entry
  kind := by decide +kernel
  split := by decide +kernel
  hasOwner := by decide +kernel
  args := fun a b c => by unfold argsOk; kernel_rfl
  passes := fun self => by kernel_rfl
end Mr
namespace Mr
open PySem PySem.Spec PyProof.Rows L2
/-- a built-in class over which an own error stands -/
structure ExBase (B newId initId : String) (bmB : List Value) : Prop where
  fb : ExcBaseFacts B newId initId bmB ∨ (IniF B initId ∧ ∃ Bn inN bmN, NewF Bn newId inN bmN bmB)
  kf : PySem.W.KxsFacts B initId
  sf : StoreFacts B bmB "object.__setattr__" "object"
open PySem.W in
theorem ExBase.supCall {prog : Program} {w : World} {A : Around} {E : Value → Shared → Prop} {s : Shared} {h₀ : Heap} {L : Addr} {m : Str → Option Value} {news : List (Addr × Obj)} {K : PySem.W.Frag} {x C u : Addr} {B i newId : String} {bmB : List Value} {t : Addr} {dv : Option Addr} {c2 : Value} {rest : List Value} {nw : Obj → List (Addr × Obj)} {Q : Value → Shared → Prop}
    (X : ExBase B newId i bmB) (F : Fr h₀ L s.heap m) (X₀ : K.In h₀) (N : News h₀ L s.heap news) (q : excInitIn K C bmB newId = true) (hm : (u, kxs_mw i x) ∈ news)
    (U : UpdF x (excObj C t dv c2) news nw) (hz : rest.length ≤ sizeLine) (h : ∀ t' h', Fr h₀ L h' m → News h₀ L h' ((t', excTup rest) :: nw (excObj C t' dv c2)) → (∀ p ∈ news, p.1 < t') → Q .none { s with heap := h' }) :
    wpAny (model prog w) A (call (.ref u) rest) Q E s := by
  rcases X.fb with fb | ⟨fi, _⟩
  · exact kxs_call F X₀ N fb q hm U hz h
  · exact init_makes F X₀ N fi q hm U hz h
theorem ExBase.callOwn {prog : Program} {w : World} {A : Around} {R : Result → Shared → Prop} {h : Heap} {g : Array GenState} {d : Drawn} {t : Nat} {os : OsState} {nm q : Str} {C N : Addr} {bs bm bmB : List Value} {hdct : Bool} {sn : List Str} {sub : List Value} {ab : Bool} {col : Option Bool} {dd : Option Addr} {k0 k1 k2 k3 k5 : Option Value} {B newId initId : String}
    (X : ExBase B newId initId bmB) (hT : ∀ X : String, bm.contains (.type X) = bmB.contains (.type X)) {rest : List Value} {fI : Addr}
    (hC : h.get? C = some (excClassObj nm q C N bs bm hdct sn sub ab col dd k0 k1 k2 k3 k5 newId))
    (hi : PySem.W.Looks (model prog w) h (typeLookup (.ref C) "__init__") (some (.ref fI))) (hb : ∀ self, PySem.W.Looks (model prog w) h (bindSpecial (.ref fI) self) (.ref fI, [self])) (hz : rest.length ≤ sizeLine)
    (hq : codeAny (model prog w) (A.under (.builtin "type.__call__" ⟨.ref C :: rest, []⟩)) (.call (.ref fI) ⟨.ref (h.objs.size + 1) :: rest, []⟩) (PySem.W.InitBack (h.objs.size + 1) R)
      ⟨(h.push (PySem.W.kdv_tup rest)).push (PySem.PX.excO C h.objs.size), g, d, t, os⟩) :
    codeAny (model prog w) A (.call (.ref C) ⟨rest, []⟩) R ⟨h, g, d, t, os⟩ := by
  rcases X.fb with fb | ⟨_, Bn, inN, bmN, fn⟩
  · exact PySem.PX.call_own fb hT hC hi hb hz hq
  · exact call_makes fn hT hC hi hb hz hq
abbrev bmIndex : List Value := [.type "IndexError", .type "LookupError", .type "Exception", .type "BaseException", .type "object"]
theorem exb_Index : ExBase "IndexError" "IndexError.__new__" "IndexError.__init__" bmIndex := ⟨.inl PySem.F.excBase_IndexError, PySem.W.kxs_IndexError, PySem.F.store_IndexError⟩
theorem exb_Key : ExBase "KeyError" "LookupError.__new__" "KeyError.__init__" bmKey := ⟨.inr ⟨ini_Key, _, _, _, new_Key⟩, kxs_Key, store_Key⟩
/-- what the body's shape asks of its environment -/
def InitEnv (qual : Str) (scope : Scope) (f y m : Str) (j : Nat) (p0 p1 p2 p3 p4 p5 p6 p7 p8 p9 : Pos) : Prop := ∀ L g cda cc : Addr,
  interactive (PySem.W.ksEnv qual scope L g (.ref cda) cc) = false ∧
  swapsWith (.Call (.Attribute (.Call (.Name "super" p0) [] [] p1) "__init__" p2) [.Constant (.str m) j p3] [] p4) none p5.line (PySem.W.ksEnv qual scope L g (.ref cda) cc) = pure false ∧
  swapsWith (.Name y p8) (some (.Attribute (.Name "self" p6) f p7)) p9.line (PySem.W.ksEnv qual scope L g (.ref cda) cc) = pure false ∧
  ∃ pl : Sem Bool, eval (.Call (.Attribute (.Call (.Name "super" p0) [] [] p1) "__init__" p2) [.Constant (.str m) j p3] [] p4) (PySem.W.ksEnv qual scope L g (.ref cda) cc) = (do
    let ov ← attributeBase (.Call (.Name "super" p0) [] [] p1) "__init__" (PySem.W.ksEnv qual scope L g (.ref cda) cc) (eval (.Call (.Name "super" p0) [] [] p1) (PySem.W.ksEnv qual scope L g (.ref cda) cc))
    standAt p2.atName
    let (f, first) ← holding [ov] (getMethod ov "__init__" pl)
    callWith p4 f first (backTo p4 (starEach [.Constant (.str m) j p3] (PySem.W.ksEnv qual scope L g (.ref cda) cc))) [])
/-- what the top has left of an own error C that keeps its one value as f: fI is its __init__ (self, y) -/
structure ErrI (prog : Program) (K : PySem.W.Frag) (C fI : Addr) (f y m : Str) (B newId initId : String) (bmB : List Value) : Prop where
  base : ExBase B newId initId bmB
  init : PySem.W.findIn K (.ref C) "__init__" = some (some (.ref fI))
  made : PySem.W.excInitIn K C bmB newId = true
  isf : PySem.W.isFn K (.ref fI) = true
  sa : PySem.W.findIn K (.ref C) "__setattr__" = some (some (.builtin "object.__setattr__"))
  over : PySem.W.excOver K C bmB = true
  tk : PySem.W.takerIn K C f = some none
  hd : PySem.W.hasDictIn K C = true
  sup : PySem.W.ks_superIn K C C "__init__" = some (some (.builtin initId))
  subB : PySem.W.subIn K (.ref C) (.type B) = some true
  exC : PySem.W.subIn K (.ref C) (.type "BaseException") = some true
  tyC : PySem.W.typeIn K (.ref C) = some (.type "type")
  kC : PySem.W.keepIn K (.ref C) = true
  opq : PySem.W.nsIn K cStatics "thirdparty.any" = some none
  slf : PySem.W.mroIn K C (.ref C) = some true
  clsC : ∃ cd, PySem.W.clsIn K C = some cd
  fn : ∃ (name qual : Str) (params : Arguments) (body : List Stmt) (scope : Scope) (kV doc pm ct oc : Value) (an od : Option Addr) (osl : Array (Option Value)) (cc cda : Addr) (cl : Value) (cld : Option Addr) (csl : Array (Option Value)) (ccl : Value) (cdd : Option Addr) (ccs : Array (Option Value)) (vs : Array Value) (file : Str) (tf : Tok) (j : Nat) (pa pb p0 p1 p2 p3 p4 p5 p6 p7 p8 p9 : Pos),
    K.lookup fI = some ⟨oc, od, .func (PySem.W.ksFn name qual params body scope .none kV doc pm an (.ref cda) ct cc), osl⟩ ∧ PySem.W.codeIn K (.ref cda) qual = true ∧
    params = { posonlyargs := [], args := [⟨"self", none, pa⟩, ⟨y, none, pb⟩], vararg := none, kwonlyargs := [], kw_defaults := [], kwarg := none, defaults := [] } ∧
    body = [.Expr (.Call (.Attribute (.Call (.Name "super" p0) [] [] p1) "__init__" p2) [.Constant (.str m) j p3] [] p4) p5, .Assign [.Attribute (.Name "self" p6) f p7] (.Name y p8) p9] ∧
    scope.kind = .function ∧ scope.isCoroutine = false ∧ scope.isGenerator = false ∧ (∀ x ∈ scope.names, x.2 ≠ .cell) ∧
    scope.names.lookup ("self" : Str) = some .local ∧ scope.names.lookup y = some .local ∧ scope.names.lookup ("super" : Str) = some .globalImplicit ∧ scope.names.lookup ("__class__" : Str) = some .free ∧
    InitEnv qual scope f y m j p0 p1 p2 p3 p4 p5 p6 p7 p8 p9 ∧ (∀ a b : Value, bindArgs (PySem.W.ksFn name qual params body scope .none kV doc pm an (.ref cda) ct cc) ⟨[a, b], []⟩ = pure [(("self" : Str), a), (y, b)]) ∧ (("self" : Str) == y) = false ∧ (y == ("__debug__" : Str)) = false ∧
    K.lookup cc = some ⟨cl, cld, .cell (some (.ref C)), csl⟩ ∧ K.lookup cda = some ⟨ccl, cdd, .fields vs, ccs⟩ ∧ vs[2]? = some (.str file tf) ∧ ((prog.main.file : Str) == file) = true
  htop : (prog.main.scope.names.lookup ("super" : Str)).isSome = false
open PySem.W in
theorem init_run {prog : Program} {w : World} {K : PySem.W.Frag} {A : Around} {h₀ : Heap} {s : Shared} {C fI e t : Addr} {f y m : Str} {B newId initId : String} {bmB : List Value} {u : Value} {R : Result → Shared → Prop} {mg mb : Str → Option Value}
    (T : ErrI prog K C fI f y m B newId initId bmB) (X₀ : K.In h₀) (keep : ∀ b o, h₀.get? b = some o → s.heap.get? b = some o) (size : h₀.objs.size ≤ s.heap.objs.size) (he : s.heap.get? e = some (excObj C t none .none)) (ne : h₀.get? e = none)
    (gG : h₀.Ns mainGlobals mg) (gS : mg "super" = none) (gB : h₀.Ns builtinsNs mb) (gBS : mb "super" = some (.type "super")) (room : A.depth < recursionLimit) (nl : h₀.NoLimit)
    (h : ∀ (h' : Heap) (t1 dx tk : Nat), (∀ b o, h₀.get? b = some o → h'.get? b = some o) → h'.get? e = some (excObj C t1 (some dx) .none) → h'.Ns1 dx (fun z => if z = f then some u else none) → dx ≠ e → h₀.get? dx = none → R (.ok (.ret .none)) { s with heap := h', toks := tk }) :
    codeAny (model prog w) A (.call (.ref fI) ⟨[.ref e, u], []⟩) R s := by
  obtain ⟨name, qual, params, body, scope, kV, doc, pm, ct, oc, an, od, osl, cc, cda, cl, cld, csl, ccl, cdd, ccs, vs, file, tf, j, pa, pb, p0, p1, p2, p3, p4, p5, p6, p7, p8, p9, hF, hcd, rfl, rfl, k1, k2, k3, k4, n1, n2, n3, n4, hev, hbd, sy, yd, hcell, hcode, hvs, hfile⟩ := T.fn
  have Xs : K.In s.heap := X₀.keeps keep
  obtain ⟨cdC, hclsC⟩ := T.clsC
  obtain ⟨hp, gens, dr, tk, os⟩ := s
  refine PySem.ks_codeAny_call_defAt (binds := [("self", .ref e), (y, u)]) room (Xs _ _ hF) rfl (nl.keeps keep) (codeRec_of Xs hcd) rfl (BindsTo.of_eq ?_) k4 (fun x hx => ?_) (fun h₁ hns hk => ?_) k2 k3 k1
  · exact hbd _ _
  · simp only [List.mem_cons, List.not_mem_nil, or_false] at hx
    rcases hx with rfl | rfl
    · exact n1
    · exact n2
  · have F1 : Fr h₀ hp.objs.size h₁ (fun x => (([("self", .ref e), (y, u)] : List (Str × Value)).reverse).lookup x) := ⟨hns, fun b o z => hk _ _ (keep b o z), size⟩
    have N1 : News h₀ hp.objs.size h₁ [(e, excObj C t none .none)] := fun p hp' => by
      rw [List.mem_singleton.mp hp']
      exact ⟨hk _ _ he, Nat.ne_of_lt (Heap.lt_size he), ne⟩
    have g0 : (([("self", .ref e), (y, u)] : List (Str × Value)).reverse).lookup ("self" : Str) = some (.ref e) := by
      show ([(y, u), ("self", .ref e)] : List (Str × Value)).lookup ("self" : Str) = _
      rw [List.lookup_cons, sy]; rfl
    have g1 : (([("self", .ref e), (y, u)] : List (Str × Value)).reverse).lookup y = some u := by
      show ([(y, u), ("self", .ref e)] : List (Str × Value)).lookup y = _
      rw [List.lookup_cons, beq_self_eq_true]
    obtain ⟨mL, hmL⟩ : ∃ mL, mL = (fun x => (([("self", .ref e), (y, u)] : List (Str × Value)).reverse).lookup x) := ⟨_, rfl⟩
    have g0 : mL "self" = some (.ref e) := by rw [hmL]; exact g0
    have g1 : mL y = some u := by rw [hmL]; exact g1
    rw [← hmL] at F1
    clear hns
    have X1 : K.In h₁ := X₀.keeps F1.keep
    have atD : ∃ oD, h₁.get? C = some oD ∧ oD.data = .cls cdC := by
      unfold clsIn at hclsC
      split at hclsC
      · rename_i c d cd' sl ho
        cases hclsC
        exact ⟨_, X1 _ _ ho, rfl⟩
      · cases hclsC
    obtain ⟨oD, hD1, hD2⟩ := atD
    show PySem.wpAt _ _ (.func _ (ksEnv qual scope hp.objs.size fI (.ref cda) cc)) (execs _ (ksEnv qual scope hp.objs.size fI (.ref cda) cc)) _ _ _
    obtain ⟨v1, v2, v3, pl, v4⟩ := hev hp.objs.size fI cda cc
    refine PySem.ks_wpAt_execs_cons (PySem.ks_wpAt_Expr_any (PySem.ks_wpAt_MethodCall ?_ v4) v1 v2)
    refine PySem.ks_wpAt_super_base (env := ksEnv qual scope hp.objs.size fI (.ref cda) cc) (ar := ⟨"self", none, pa⟩) n3 n4 (by decide) rfl (X1 _ _ hF) rfl rfl rfl (X1 _ _ hcode) rfl hvs hfile T.htop ?_
    refine ks_loadName_global k1 n3 (Calls.loadGlobal_builtin (env := ksEnv qual scope hp.objs.size fI (.ref cda) cc) (gG.keeps F1.keep) gS (gB.keeps F1.keep) gBS ⟨rfl, ?_⟩)
    refine wpAny_loadName_free k1 n4 rfl ⟨_, X1 _ _ hcell, rfl⟩ ?_
    refine wpAny_loadName_local k1 n1 F1.ns g0 ?_
    refine PySem.ks_wpAny_isType_cls hD1 hD2 ⟨rfl, ?_⟩
    refine PySem.ks_wpAny_call_super hD1 hD2 (N1 _ List.mem_cons_self).1 rfl (fun c z => nomatch z) (looks_mroIn X1 T.slf) (fun h2 e2 kp2 => ?_)
    obtain ⟨F2, N2, lt2⟩ := ks_newsPush (s := ⟨h₁, gens, dr, tk + 2, os⟩) F1 N1 rfl e2 kp2
    refine kxs_method T.base.kf F2 X₀ N2 List.mem_cons_self (InstAt.of_exc0 N2 (List.mem_cons_of_mem _ List.mem_cons_self)) T.opq T.sup T.subB (by decide) (fun q h3 F3 N3 lt3 => ?_)
    refine kxs_callWith1 N3 List.mem_cons_self ?_
    show wpAny _ _ (spliced ((false, eval (.Constant (.str m) j p3) _) :: backTo p4 (starEach [] _))) _ _ _
    refine Calls.spliced_cons (wpAny_Constant_str (Calls.spliced_nil ⟨kxs_at N3 List.mem_cons_self, ?_⟩))
    have lqe : q ≠ e := fun z => Nat.lt_irrefl e (z ▸ lt3 (e, excObj C t none .none) (List.mem_cons_of_mem _ List.mem_cons_self))
    have lse : h₁.objs.size ≠ e := fun z => Nat.lt_irrefl e (z ▸ lt2 (e, excObj C t none .none) List.mem_cons_self)
    refine T.base.supCall F3 X₀ N3 T.made List.mem_cons_self (.tail lqe (.tail lse (.head (fun p hp' => nomatch hp')))) (by show 1 ≤ sizeLine; rw [sizeLine_eq]; omega) (fun t2 h4 F4 N4 lt4 => ?_)
    refine PySem.ks_wpAt_execs_cons (PySem.ks_wpAt_Assign_Attr (wpAt_of_wpAny (wpAny_Name (wpAny_loadName_local k1 n2 F4.ns g1 ?_) yd)) v3)
    refine wpAny_Name (wpAny_loadName_local k1 n1 F4.ns g0 ?_)
    have lte : t2 ≠ e := fun z => Nat.lt_irrefl e (z ▸ lt4 (e, excObj C t none .none) (List.mem_cons_of_mem _ (List.mem_cons_of_mem _ List.mem_cons_self)))
    refine set_exc0 T.base.sf F4 X₀ N4 (List.mem_cons_of_mem _ (List.mem_cons_of_mem _ (List.mem_cons_of_mem _ List.mem_cons_self))) T.sa T.over T.tk T.hd rfl (.tail lte (.tail lqe (.tail lse (.head (fun p hp' => nomatch hp'))))) (by show 1 ≤ 1000; omega) (fun dx h5 F5 N5 lt5 => ?_)
    refine wpAt_of_wpAny (wpAny_execs_nil ?_)
    have q0 := N5 _ List.mem_cons_self
    have q1 := N5 (e, excObj C t2 (some dx) .none) (List.mem_cons_of_mem _ (List.mem_cons_of_mem _ (List.mem_cons_of_mem _ (List.mem_cons_of_mem _ List.mem_cons_self))))
    refine h h5 t2 dx _ F5.keep q1.1 ⟨_, _, _, q0.1, rfl, ?_, ?_, ?_⟩ (fun z => ?_) q0.2.2
    · intro z hz
      simp [putL] at hz
      exact ⟨_, _, by rw [hz]⟩
    · unfold UniqKeys
      simp [putL]
    · intro z
      by_cases hz : z = f
      · subst hz
        simp [nsFind, findBy, putL, Value.isStr]
      · have : (f == z) = false := by simpa using fun w : f = z => hz w.symm
        simp [nsFind, findBy, putL, Value.isStr, this, hz]
    · exact Nat.lt_irrefl e (z ▸ lt5 (e, excObj C t2 none .none) (List.mem_cons_of_mem _ (List.mem_cons_of_mem _ (List.mem_cons_of_mem _ List.mem_cons_self))))
/-- C(e), C an own error that keeps its value as f -/
def tMkI (C : Addr) (f : Str) (te : TE) : L2.St → Hp → XK → Prop := fun σ H Q => te σ H fun v H1 => ∀ d, H1 d = none → Q (.ref C) (some d) (upd H1 d (.xd [(f, v)]))
open PySem.W in
theorem pmk_init {X : Cx} {x f y m : Str} {C fI : Addr} {B newId initId : String} {bmB : List Value} {a : Expr} {te : TE} {p pos : Pos} {k : Nat} (T : ErrI X.prog X.K C fI f y m B newId initId bmB) (room : RoomG (k + 1) X.A) (hg : Gl X x) (hm : X.mg x = some (.ref C)) (hsup : X.mg "super" = none) (ha : PE X a te)
    (hdb : (x == ("__debug__" : Str)) = false := by decide) (he : starEach [a] X.env = (false, eval a X.env) :: starEach [] X.env := by rfl) (hpl : (backTo pos (starEach [] X.env)).any (·.1) = false := by rfl) :
    PMk X (.Call (.Name x p) [a] [] pos) (tMkI C f te) := by
  intro pins s σ H Q I h
  refine wpAny_Call_Name_kw (ld_glob I hg hm ?_ hdb)
  have pa := pa_cons ha pa_nil he
  refine PySem.W.callWith_K (h₀ := X.base) I.ok.mod.kin T.kC (thn (pa.run pos pins s σ H (fun vs H1 => match vs with
    | [v] => ∀ d, H1 d = none → Q (.ref C) (some d) (upd H1 d (.xd [(f, v)]))
    | _ => False) I h) fun us s1 hh => ?_) he hpl
  obtain ⟨vs, H1, I1, r1, q0⟩ := hh
  refine ⟨I1.kIn, ?_⟩
  obtain ⟨v, rfl, q1⟩ : ∃ v, vs = [v] ∧ ∀ d, H1 d = none → Q (.ref C) (some d) (upd H1 d (.xd [(f, v)])) := by
    match vs, q0 with
    | [v], q0 => exact ⟨v, rfl, q0⟩
  obtain ⟨u, rfl, ru⟩ := vals1 r1
  show wpAny _ _ (call (.ref C) [u]) _ _ _
  obtain ⟨mF, F⟩ := I1.fr
  obtain ⟨hp, gens, dr, tk, os⟩ := s1
  have X1 : X.K.In hp := I1.kIn
  obtain ⟨nm, N', qn, bs, bm, hdct, sn, sub, ab, col, dd, k0, k1, k2, k3, k5, hC, hT⟩ := excInit_of X1 T.made
  have isf := T.isf
  obtain ⟨oI, hoI, hcI⟩ : ∃ oI, hp.get? fI = some oI ∧ oI.cls = .type "function" := by
    obtain ⟨o, ho, hc⟩ := Option.map_eq_some_iff.mp (show (X.K.lookup fI).map (·.cls) = some (.type "function") from beq_iff_eq.mp isf)
    exact ⟨o, X1 _ _ ho, hc⟩
  have kp : ∀ b o, hp.get? b = some o → ((hp.push (excTup [u])).push (excObj C hp.objs.size none .none)).get? b = some o := fun b o z => Heap.get?_push_of_some _ (Heap.get?_push_of_some _ z)
  have hget : ((hp.push (excTup [u])).push (excObj C hp.objs.size none .none)).get? (hp.objs.size + 1) = some (excObj C hp.objs.size none .none) := by heap_get
  have gone : hp.get? (hp.objs.size + 1) = none := Heap.get?_none_of_le (Nat.le_succ _)
  have hn : H1 (hp.objs.size + 1) = none := I1.hok.fresh (Nat.le_succ _)
  obtain ⟨mb, b1, b2⟩ := I1.mod.blt
  refine wpAny_call (T.base.callOwn hT hC (looks_findIn X1 T.init) (fun self => exc_bind hoI hcI self) (by show 1 ≤ sizeLine; rw [sizeLine_eq]; omega) ?_)
  refine init_run (h₀ := hp) (t := hp.objs.size) T X1 kp (by rw [Heap.size_push, Heap.size_push]; omega) hget gone (I1.mod.glob.keeps I1.bk) hsup (b1.keeps I1.bk) ((b2 "super" (by decide)).trans (by decide +kernel)) (room.make C [u] []).r.depth (I1.mod.nolimit.keeps I1.bk) ?_
  intro h' t1 dx tk' k5 g1 g2 g3 g4
  have hdx : H1 dx = none := I1.hok.gone g4
  obtain ⟨G, c1, c2⟩ := restrict h' fun b => decide (b ≠ hp.objs.size + 1)
  have gk : ∀ b, b ≠ hp.objs.size + 1 → G.get? b = h'.get? b := fun b hb => c1 b (decide_eq_true hb)
  have ge : G.get? (hp.objs.size + 1) = none := c2 _ (by simp)
  have J : Inv X pins σ (upd H1 dx (.xd [(f, v)])) ⟨G, gens, dr, tk', os⟩ := I1.laidN (t' := tk') (h' := G) (fun b o z => by
      rw [gk b (fun w => by rw [w, gone] at z; cases z)]
      exact k5 b o z) g4 hdx ⟨_, g2.at fun o z => (gk dx g3).trans z, fun n => by
      by_cases hz : n = f
      · subst hz
        simp [RelO, ru]
      · have : (n == f) = false := by simpa using hz
        rw [if_neg hz, List.lookup_cons, this]; trivial⟩
  refine ⟨rfl, hp.objs.size + 1, _, _, ⟨G, gens, dr, tk', os⟩, _, .ref C, some dx, rfl, J, fun b o z => ?_, ge, g1, ⟨rfl, rfl⟩, rfl, rfl, ?_, rfl, I1.bare, raises_own T.exC T.tyC, q1 dx hdx⟩
  · have z : G.get? b = some o := z
    have hb : b ≠ hp.objs.size + 1 := fun w => by rw [w, ge] at z; cases z
    exact (gk b hb).symm.trans z
  · rw [upd_ne (Ne.symm g3)]; exact hn
def exiB (c f : Str) (B newId initId : String) (bmB : List Value) (file : Str) (K : PySem.W.Frag) : Bool :=
  He.eqO (PySem.W.findIn K (.ref (He.ga K c)) "__init__") (some (some (.ref (meA c "__init__" K)))) && (PySem.W.excInitIn K (He.ga K c) bmB newId && (PySem.W.isFn K (.ref (meA c "__init__" K)) &&
  (He.eqO (PySem.W.findIn K (.ref (He.ga K c)) "__setattr__") (some (some (.builtin "object.__setattr__"))) && (PySem.W.excOver K (He.ga K c) bmB && (decide (PySem.W.takerIn K (He.ga K c) f = some none) && (PySem.W.hasDictIn K (He.ga K c) &&
  (He.eqO (PySem.W.ks_superIn K (He.ga K c) (He.ga K c) "__init__") (some (some (.builtin initId))) && (decide (PySem.W.subIn K (.ref (He.ga K c)) (.type B) = some true) && (decide (PySem.W.subIn K (.ref (He.ga K c)) (.type "BaseException") = some true) &&
  (decide (PySem.W.typeIn K (.ref (He.ga K c)) = some (.type "type")) && (PySem.W.keepIn K (.ref (He.ga K c)) && (decide (PySem.W.nsIn K cStatics "thirdparty.any" = some none) && (decide (PySem.W.mroIn K (He.ga K c) (.ref (He.ga K c)) = some true) && ((PySem.W.clsIn K (He.ga K c)).isSome &&
  (match K.lookup (meA c "__init__" K) with
  | some ⟨_, _, .func fd, _⟩ => (match fd.defaults, fd.code, fd.closure with
    | .none, .ref cda, [(_, cc)] => PySem.W.codeIn K (.ref cda) fd.qualname && ((match K.lookup cda with
        | some ⟨_, _, .fields (vs : Array Value), _⟩ => (match (vs[2]? : Option Value) with
          | some (Value.str g _) => (file == g)
          | _ => false)
        | _ => false) && (match K.lookup cc with
        | some ⟨_, _, .cell (some (.ref C')), _⟩ => decide (C' = He.ga K c)
        | _ => false))
    | _, _, _ => false)
  | _ => false)))))))))))))))
theorem exi_fd {fd : FuncData} {g : Addr → Addr → Bool} (t : (match fd.defaults, fd.code, fd.closure with
    | .none, .ref cda, [(_, cc)] => g cda cc
    | _, _, _ => false) = true) : ∃ cda nm cc, fd.defaults = .none ∧ fd.code = .ref cda ∧ fd.closure = [(nm, cc)] ∧ g cda cc = true := by
  obtain ⟨f1, f2, f3, f4, f5, f6, f7, f8, f9, f10, f11, f12, f13, f14, f15⟩ := fd
  dsimp only at t ⊢
  cases f8 with
  | none => cases f13 with
    | ref cda => match f7, t with
      | [(nm, cc)], t => exact ⟨_, _, _, rfl, rfl, rfl, t⟩
    | _ => cases t
  | _ => cases t
open PySem.W in
theorem errI_ok {P : Program} {K : PySem.W.Frag} {c f y m qual : Str} {B newId initId : String} {bmB : List Value} {file : Str} {fa : List He.Fa} {tb : List (PySem.W.Frag → Bool)} {fn : List DefM} {scope : Scope} {j : Nat} {pa pb p0 p1 p2 p3 p4 p5 p6 p7 p8 p9 : Pos} (E : ExBase B newId initId bmB) (cc : SaysM fa tb fn K) (t : exiB c f B newId initId bmB file K = true) (i : Nat)
    (hd : fn[i]? = some ⟨meA c "__init__", "__init__", qual, { posonlyargs := [], args := [⟨"self", none, pa⟩, ⟨y, none, pb⟩], vararg := none, kwonlyargs := [], kw_defaults := [], kwarg := none, defaults := [] },
      [.Expr (.Call (.Attribute (.Call (.Name "super" p0) [] [] p1) "__init__" p2) [.Constant (.str m) j p3] [] p4) p5, .Assign [.Attribute (.Name "self" p6) f p7] (.Name y p8) p9], scope, [], ["__class__"]⟩)
    (hp : (P.main.file : Str) = file) (htop : (P.main.scope.names.lookup ("super" : Str)).isSome = false) (k1 : scope.kind = .function) (k2 : scope.isCoroutine = false) (k3 : scope.isGenerator = false) (k4 : ∀ x ∈ scope.names, x.2 ≠ .cell)
    (n1 : scope.names.lookup ("self" : Str) = some .local) (n2 : scope.names.lookup y = some .local) (n3 : scope.names.lookup ("super" : Str) = some .globalImplicit) (n4 : scope.names.lookup ("__class__" : Str) = some .free) (hev : InitEnv qual scope f y m j p0 p1 p2 p3 p4 p5 p6 p7 p8 p9)
    (hbd : ∀ (kV doc pm ct : Value) (an : Option Addr) (cda cc : Addr) (a b : Value), bindArgs (ksFn "__init__" qual { posonlyargs := [], args := [⟨"self", none, pa⟩, ⟨y, none, pb⟩], vararg := none, kwonlyargs := [], kw_defaults := [], kwarg := none, defaults := [] }
      [.Expr (.Call (.Attribute (.Call (.Name "super" p0) [] [] p1) "__init__" p2) [.Constant (.str m) j p3] [] p4) p5, .Assign [.Attribute (.Name "self" p6) f p7] (.Name y p8) p9] scope .none kV doc pm an (.ref cda) ct cc) ⟨[a, b], []⟩ = pure [(("self" : Str), a), (y, b)])
    (sy : (("self" : Str) == y) = false) (yd : (y == ("__debug__" : Str)) = false) : ErrI P K (He.ga K c) (meA c "__init__" K) f y m B newId initId bmB := by
  unfold exiB at t
  obtain ⟨t1, t⟩ := He.ba t
  obtain ⟨t2, t⟩ := He.ba t
  obtain ⟨t3, t⟩ := He.ba t
  obtain ⟨t4, t⟩ := He.ba t
  obtain ⟨t5, t⟩ := He.ba t
  obtain ⟨t6, t⟩ := He.ba t
  obtain ⟨t7, t⟩ := He.ba t
  obtain ⟨t8, t⟩ := He.ba t
  obtain ⟨t9, t⟩ := He.ba t
  obtain ⟨t10, t⟩ := He.ba t
  obtain ⟨t11, t⟩ := He.ba t
  obtain ⟨t12, t⟩ := He.ba t
  obtain ⟨t13, t⟩ := He.ba t
  obtain ⟨t14, t⟩ := He.ba t
  obtain ⟨t15, t⟩ := He.ba t
  have e : fn.map (fun d => fnM K (d.at_ K)) = fn.map DefM.val := congrArg (fun z : AlM => z.2) cc
  have e2 : (fn.map fun d => fnM K (d.at_ K))[i]? = (fn.map DefM.val)[i]? := by rw [e]
  rw [List.getElem?_map, List.getElem?_map, hd] at e2
  have e3 : fnM K (meA c "__init__" K) = DefM.val _ := Option.some.inj e2
  refine ⟨E, He.eqO_ok t1, t2, t3, He.eqO_ok t4, t5, of_decide_eq_true t6, t7, He.eqO_ok t8, of_decide_eq_true t9, of_decide_eq_true t10, of_decide_eq_true t11, t12, of_decide_eq_true t13, of_decide_eq_true t14, Option.isSome_iff_exists.mp t15, ?_, htop⟩
  split at t
  · rename_i oc od fd osl lk
    unfold fnM at e3
    rw [lk] at e3
    obtain ⟨f1, f2, f3, f4, f5, f6, f7, f8, f9, f10, f11, f12, f13, f14, f15⟩ := fd
    clear t1 t4 t8
    have e4 : (some (f1, f2, f3, f4, f5, f6, f7.map fun p => (p.1, 0), f15) : He.FnW) = some _ := e3
    unfold DefM.val at e4
    simp only [Option.some.injEq, Prod.mk.injEq] at e4
    obtain ⟨rfl, rfl, rfl, rfl, rfl, rfl, hc, rfl⟩ := e4
    obtain ⟨cda, nm, c2, rfl, rfl, rfl, t⟩ := exi_fd t
    rw [List.map_cons, List.map_nil, List.map_cons, List.map_nil] at hc
    have en : nm = "__class__" := by
      have := (List.cons.inj hc).1
      exact (Prod.mk.inj this).1
    subst en
    obtain ⟨u1, t⟩ := He.ba t
    obtain ⟨u2, u3⟩ := He.ba t
    split at u2
    · rename_i ccl cdd vs ccs lk2
      split at u2
      · rename_i g tf hv
        split at u3
        · rename_i cl cld C' csl lk3
          have eC : C' = He.ga K c := of_decide_eq_true u3
          subst eC
          exact ⟨_, _, _, _, _, _, _, _, _, _, _, _, _, _, _, _, _, _, _, _, _, _, _, _, _, pa, pb, p0, p1, p2, p3, p4, p5, p6, p7, p8, p9, lk, u1, rfl, rfl, k1, k2, k3, k4, n1, n2, n3, n4, hev, fun a b => hbd _ _ _ _ _ _ _ a b, sy, yd, lk3, lk2, hv, by rw [hp]; exact u2⟩
        · cases u3
      · cases u2
    · cases u2
  · cases t
section
variable [Lam] [Pins] {X : Cx} {W : WX}
/-- raise C(e) -/
def xRaiseI (c f : Str) (fe : M D) : M Fl := fun ρ => (fe ρ).bind fun d ρ => .exc ⟨.own c, [(f, d)]⟩ ρ
theorem AS.raiseI {c f y m : Str} {fI : Addr} {B newId initId : String} {bmB : List Value} {a : Expr} {fa : M D} {p pos pos' : Pos} {k : Nat} (hc : X.calm = true) (tk : Takes X W) (T : ErrI X.prog X.K (He.ga X.K c) fI f y m B newId initId bmB) (hr : RoomG (k + 1) X.A) (mc : X.mg c = some (.ref (He.ga X.K c))) (hsup : X.mg "super" = none) (gc : Gl X c) (ha : AE X W a fa)
    (hdb : (c == ("__debug__" : Str)) = false := by decide) (he : starEach [a] X.env = (false, eval a X.env) :: starEach [] X.env := by rfl) (hpl : (backTo pos (starEach [] X.env)).any (·.1) = false := by rfl) :
    AS X W (.Raise (some (.Call (.Name c p) [a] [] pos)) none pos') (xRaiseI c f fa) := by
  obtain ⟨t, pa, qa⟩ := ha
  refine ⟨_, ps_raise hc tk (pmk_init T hr gc mc hsup pa hdb he hpl), fun G σ H F ρ Dn S hg => qa G σ H F ρ _ S (GoodS.bind hg fun d ρ1 H1 F1 S1 s1 g1 v r1 d0 nd => ?_)⟩
  refine g1 (some d0) σ _ (upd F1 d0 (.xd [(f, v)])) (S1.alloc nd) (S1.allocF nd) (.inr ⟨d0, [v], rfl, upd_same, .cons (r1.mono (S1.allocF nd)) .nil⟩)
end
end Mr
namespace Mr
open PySem PySem.Spec PyProof.Rows L2
/-- the class c has no attribute f -/
def noB (c f : Str) (K : PySem.W.Frag) : Bool := decide (PySem.W.findIn K (.ref (He.ga K c)) f = some none)
theorem noB_ok {c f : Str} {K : PySem.W.Frag} (h : noB c f K = true) : PySem.W.findIn K (.ref (He.ga K c)) f = some none := of_decide_eq_true h
end Mr
namespace Pm
open PySem PySem.Spec PyProof.Rows L2 Mr
def c_GREATEST : Int := 99999999999999999999999999999999999999999999999999999999999999999999999999999999999999999999999999999999999999999999999999999999999999999999999999999999999999999999999999999999999999999999999999999999
def c_LEAST : Str := Str.ofString "least"
def c_MORE : Str := Str.ofString "more"
def c_MAX_LETTERS : Int := 8
def c_MOST_NAMES : Int := 3
def c_MAX_STEP : Int := 20
def c_MAX_MULTIPLIER : Int := 9
def c_SIGNS : List D := [.str (Str.ofString "more"), .str (Str.ofString "least")]
def c_MAX_TEST_NUMBER : Int := 99
def c_MAX_TESTS : Int := 4
end Pm
namespace K11
open PySem PySem.Spec PyProof.Rows L2 Mr Pm
def topS (i : Nat) : Stmt := PySem.Challenge.pw_staystarts_k11_whole_edits_of_loops.main.body.getD i (.Pass ⟨0, 0, 0, 0⟩)
def ls : List LamM := [⟨glA "_law_test_edit", "_law_test_edit.<locals>.<lambda>"⟩, ⟨glA "_law_less_edit", "_law_less_edit.<locals>.<lambda>"⟩, ⟨glA "_law_step_edit", "_law_step_edit.<locals>.<lambda>"⟩, ⟨glA "_law_name_edit", "_law_name_edit.<locals>.<lambda>"⟩]
instance lamI : Lam := ⟨lamT ls⟩
def fn : List DefM := [
  ⟨glA "is_name", "is_name", "is_name", defArgs (topS 5), defBody (topS 5), defScope (topS 5), [], []⟩,
  ⟨glA "is_names", "is_names", "is_names", defArgs (topS 6), defBody (topS 6), defScope (topS 6), [], []⟩,
  ⟨glA "is_integer", "is_integer", "is_integer", defArgs (topS 4), defBody (topS 4), defScope (topS 4), [], []⟩,
  ⟨glA "is_form", "is_form", "is_form", defArgs (topS 25), defBody (topS 25), defScope (topS 25), [], []⟩,
  ⟨glA "is_small_form", "is_small_form", "is_small_form", defArgs (topS 26), defBody (topS 26), defScope (topS 26), [], []⟩,
  ⟨glA "is_step", "is_step", "is_step", defArgs (topS 29), defBody (topS 29), defScope (topS 29), [], []⟩,
  ⟨glA "are_steps", "are_steps", "are_steps", defArgs (topS 30), defBody (topS 30), defScope (topS 30), [], []⟩,
  ⟨glA "is_sign", "is_sign", "is_sign", defArgs (topS 27), defBody (topS 27), defScope (topS 27), [], []⟩,
  ⟨glA "is_test", "is_test", "is_test", defArgs (topS 28), defBody (topS 28), defScope (topS 28), [], []⟩,
  ⟨glA "are_tests", "are_tests", "are_tests", defArgs (topS 31), defBody (topS 31), defScope (topS 31), [], []⟩,
  ⟨meA "Loop" "__init__", "__init__", "Loop.__init__", defArgs (inCls (topS 32) 0), defBody (inCls (topS 32) 0), defScope (inCls (topS 32) 0), [], []⟩,
  ⟨glA "_law_made_loop", "_law_made_loop", "_law_made_loop", defArgs (topS 43), defBody (topS 43), defScope (topS 43), [], []⟩,
  ⟨glA "_law_bit", "_law_bit", "_law_bit", defArgs (topS 38), defBody (topS 38), defScope (topS 38), [], []⟩,
  ⟨glA "_law_pick", "_law_pick", "_law_pick", defArgs (topS 39), defBody (topS 39), defScope (topS 39), [], []⟩,
  ⟨glA "_law_dealt", "_law_dealt", "_law_dealt", defArgs (topS 40), defBody (topS 40), defScope (topS 40), [], []⟩,
  ⟨glA "_law_small", "_law_small", "_law_small", defArgs (topS 41), defBody (topS 41), defScope (topS 41), [], []⟩,
  ⟨glA "_law_line", "_law_line", "_law_line", defArgs (topS 42), defBody (topS 42), defScope (topS 42), [], []⟩,
  ⟨glA "_law_wide_loop", "_law_wide_loop", "_law_wide_loop", defArgs (topS 46), defBody (topS 46), defScope (topS 46), [], []⟩,
  ⟨glA "_law_other", "_law_other", "_law_other", defArgs (topS 47), defBody (topS 47), defScope (topS 47), [], []⟩,
  ⟨glA "_law_met_error", "_law_met_error", "_law_met_error", defArgs (topS 45), defBody (topS 45), defScope (topS 45), [], []⟩,
  ⟨meA "Loop" "__eq__", "__eq__", "Loop.__eq__", defArgs (inCls (topS 32) 15), defBody (inCls (topS 32) 15), defScope (inCls (topS 32) 15), [], []⟩,
  ⟨glA "require_sign", "require_sign", "require_sign", defArgs (topS 33), defBody (topS 33), defScope (topS 33), [], []⟩,
  ⟨glA "require_form", "require_form", "require_form", defArgs (topS 34), defBody (topS 34), defScope (topS 34), [], []⟩,
  ⟨meA "Loop" "with_test", "with_test", "Loop.with_test", defArgs (inCls (topS 32) 7), defBody (inCls (topS 32) 7), defScope (inCls (topS 32) 7), [], []⟩,
  ⟨meA "Loop" "without_test", "without_test", "Loop.without_test", defArgs (inCls (topS 32) 8), defBody (inCls (topS 32) 8), defScope (inCls (topS 32) 8), [], []⟩,
  ⟨glA "_law_test_edit", "_law_test_edit", "_law_test_edit", defArgs (topS 48), defBody (topS 48), defScope (topS 48), [], []⟩,
  ⟨glA "_law_less_edit", "_law_less_edit", "_law_less_edit", defArgs (topS 49), defBody (topS 49), defScope (topS 49), [], []⟩,
  ⟨glA "require_name", "require_name", "require_name", defArgs (topS 35), defBody (topS 35), defScope (topS 35), [], []⟩,
  ⟨meA "Loop" "with_step", "with_step", "Loop.with_step", defArgs (inCls (topS 32) 9), defBody (inCls (topS 32) 9), defScope (inCls (topS 32) 9), [], []⟩,
  ⟨glA "_law_step_edit", "_law_step_edit", "_law_step_edit", defArgs (topS 50), defBody (topS 50), defScope (topS 50), [], []⟩,
  ⟨meA "Loop" "__contains__", "__contains__", "Loop.__contains__", defArgs (inCls (topS 32) 12), defBody (inCls (topS 32) 12), defScope (inCls (topS 32) 12), [], []⟩,
  ⟨meA "Loop" "renamed", "renamed", "Loop.renamed", defArgs (inCls (topS 32) 10), defBody (inCls (topS 32) 10), defScope (inCls (topS 32) 10), [], []⟩,
  ⟨glA "_law_name_edit", "_law_name_edit", "_law_name_edit", defArgs (topS 51), defBody (topS 51), defScope (topS 51), [], []⟩,
  ⟨pgA "Loop" "width", "width", "Loop.width", defArgs (inCls (topS 32) 5), defBody (inCls (topS 32) 5), defScope (inCls (topS 32) 5), [], []⟩,
  ⟨pgA "Loop" "multipliers", "multipliers", "Loop.multipliers", defArgs (inCls (topS 32) 4), defBody (inCls (topS 32) 4), defScope (inCls (topS 32) 4), [], []⟩,
  ⟨meA "Loop" "__len__", "__len__", "Loop.__len__", defArgs (inCls (topS 32) 14), defBody (inCls (topS 32) 14), defScope (inCls (topS 32) 14), [], []⟩,
  ⟨pgA "Loop" "matrix", "matrix", "Loop.matrix", defArgs (inCls (topS 32) 6), defBody (inCls (topS 32) 6), defScope (inCls (topS 32) 6), [], []⟩,
  ⟨meA "Loop" "__str__", "__str__", "Loop.__str__", defArgs (inCls (topS 32) 16), defBody (inCls (topS 32) 16), defScope (inCls (topS 32) 16), [], []⟩,
  ⟨pgA "Loop" "names", "names", "Loop.names", defArgs (inCls (topS 32) 1), defBody (inCls (topS 32) 1), defScope (inCls (topS 32) 1), [], []⟩,
  ⟨pgA "Loop" "steps", "steps", "Loop.steps", defArgs (inCls (topS 32) 2), defBody (inCls (topS 32) 2), defScope (inCls (topS 32) 2), [], []⟩,
  ⟨pgA "Loop" "tests", "tests", "Loop.tests", defArgs (inCls (topS 32) 3), defBody (inCls (topS 32) 3), defScope (inCls (topS 32) 3), [], []⟩,
  ⟨meA "Loop" "__getitem__", "__getitem__", "Loop.__getitem__", defArgs (inCls (topS 32) 11), defBody (inCls (topS 32) 11), defScope (inCls (topS 32) 11), [], []⟩,
  ⟨glA "_law_is_loop", "_law_is_loop", "_law_is_loop", defArgs (topS 44), defBody (topS 44), defScope (topS 44), [], []⟩,
  ⟨glA "_law_right", "_law_right", "_law_right", defArgs (topS 52), defBody (topS 52), defScope (topS 52), [], []⟩,
  ⟨glA "_law_bowl", "_law_bowl", "_law_bowl", defArgs (topS 37), defBody (topS 37), defScope (topS 37), [], []⟩,
  ⟨glA "law", "law", "law", defArgs (topS 53), defBody (topS 53), defScope (topS 53), [], []⟩,
  ⟨meA "InvalidNumber" "__init__", "__init__", "InvalidNumber.__init__", defArgs (inCls (topS 14) 0), defBody (inCls (topS 14) 0), defScope (inCls (topS 14) 0), [], ["__class__"]⟩,
  ⟨meA "UnknownName" "__init__", "__init__", "UnknownName.__init__", defArgs (inCls (topS 15) 0), defBody (inCls (topS 15) 0), defScope (inCls (topS 15) 0), [], ["__class__"]⟩]
def fa : List He.Fa := [.glo "is_name", .glo "is_names", .glo "is_integer", .glo "is_form", .glo "is_small_form", .glo "is_step", .glo "are_steps", .glo "is_sign", .glo "is_test", .glo "are_tests", .mkr "Loop", .glo "_law_made_loop", .glo "_law_bit", .glo "_law_pick", .glo "_law_dealt", .glo "_law_small", .glo "_law_line", .glo "_law_wide_loop", .glo "_law_other", .glo "_law_met_error", .meth "Loop" "__eq__", .glo "require_sign", .glo "require_form", .meth "Loop" "with_test", .meth "Loop" "without_test", .glo "_law_test_edit", .glo "_law_less_edit", .glo "require_name", .meth "Loop" "with_step", .glo "_law_step_edit", .meth "Loop" "__contains__", .meth "Loop" "renamed", .glo "_law_name_edit", .meth "Loop" "__len__", .meth "Loop" "__str__", .meth "Loop" "__getitem__", .glo "_law_is_loop", .glo "_law_right", .glo "_law_bowl", .glo "law", .glo "InvalidForm", .glo "InvalidLoop", .glo "InvalidName", .glo "InvalidNumber", .glo "InvalidOperation", .glo "InvalidStart", .glo "Loop", .glo "TooMany", .glo "UnknownName", .cls "Loop", .exc "InvalidForm", .exc "InvalidLoop", .exc "InvalidName", .exc "InvalidOperation", .exm "InvalidForm" "InvalidForm" true, .exm "InvalidForm" "InvalidLoop" false, .exm "InvalidForm" "InvalidName" false, .exm "InvalidForm" "InvalidNumber" false, .exm "InvalidForm" "InvalidOperation" false, .exm "InvalidForm" "InvalidStart" false, .exm "InvalidForm" "TooMany" false, .exm "InvalidForm" "UnknownName" false, .exm "InvalidLoop" "InvalidForm" false, .exm "InvalidLoop" "InvalidLoop" true, .exm "InvalidLoop" "InvalidName" false, .exm "InvalidLoop" "InvalidNumber" false, .exm "InvalidLoop" "InvalidOperation" false, .exm "InvalidLoop" "InvalidStart" false, .exm "InvalidLoop" "TooMany" false, .exm "InvalidLoop" "UnknownName" false, .exm "InvalidName" "InvalidForm" false, .exm "InvalidName" "InvalidLoop" false, .exm "InvalidName" "InvalidName" true, .exm "InvalidName" "InvalidNumber" false, .exm "InvalidName" "InvalidOperation" false, .exm "InvalidName" "InvalidStart" false, .exm "InvalidName" "TooMany" false, .exm "InvalidName" "UnknownName" false, .exm "InvalidNumber" "InvalidForm" false, .exm "InvalidNumber" "InvalidLoop" false, .exm "InvalidNumber" "InvalidName" false, .exm "InvalidNumber" "InvalidNumber" true, .exm "InvalidNumber" "InvalidOperation" false, .exm "InvalidNumber" "InvalidStart" false, .exm "InvalidNumber" "TooMany" false, .exm "InvalidNumber" "UnknownName" false, .exm "InvalidOperation" "InvalidForm" false, .exm "InvalidOperation" "InvalidLoop" false, .exm "InvalidOperation" "InvalidName" false, .exm "InvalidOperation" "InvalidNumber" false, .exm "InvalidOperation" "InvalidOperation" true, .exm "InvalidOperation" "InvalidStart" false, .exm "InvalidOperation" "TooMany" false, .exm "InvalidOperation" "UnknownName" false, .exm "UnknownName" "InvalidForm" false, .exm "UnknownName" "InvalidLoop" false, .exm "UnknownName" "InvalidName" false, .exm "UnknownName" "InvalidNumber" false, .exm "UnknownName" "InvalidOperation" false, .exm "UnknownName" "InvalidStart" false, .exm "UnknownName" "TooMany" false, .exm "UnknownName" "UnknownName" true, .noat "Loop" "own_by_name", .noat "Loop" "own_matrix", .noat "Loop" "own_names", .noat "Loop" "own_steps", .noat "Loop" "own_tests", .noat "Loop" "own_width", .int "GREATEST" c_GREATEST, .int "MAX_LETTERS" c_MAX_LETTERS, .int "MAX_MULTIPLIER" c_MAX_MULTIPLIER, .int "MAX_STEP" c_MAX_STEP, .int "MAX_TESTS" c_MAX_TESTS, .int "MAX_TEST_NUMBER" c_MAX_TEST_NUMBER, .int "MOST_NAMES" c_MOST_NAMES, .free "abs", .free "all", .free "bool", .free "dict", .free "enumerate", .free "int", .free "isinstance", .free "len", .free "list", .free "max", .free "min", .free "range", .free "repr", .free "set", .free "str", .free "super", .free "tuple", .free "zip"]
def tb : List (PySem.W.Frag → Bool) := [propB "Loop" "width", propB "Loop" "multipliers", propB "Loop" "matrix", propB "Loop" "names", propB "Loop" "steps", propB "Loop" "tests", fun K => isiB K "Loop", eqFB "Loop", exiB "InvalidNumber" "value" "IndexError" "IndexError.__new__" "IndexError.__init__" bmIndex "/claim/cut.py", exiB "UnknownName" "name" "KeyError" "LookupError.__new__" "KeyError.__init__" bmKey "/claim/cut.py", fun K => xfB K (He.ga K "InvalidNumber"), fun K => xfB K (He.ga K "TooMany"), fun K => xfB K (He.ga K "UnknownName"), noB "InvalidNumber" "value", noB "TooMany" "limit", noB "UnknownName" "name", tabB "SIGNS" c_SIGNS, fun K => (K.lookup sysModules).isSome]
def loose0 : List Str := ["MAX_LETTERS", "MOST_NAMES", "GREATEST", "is_integer", "is_name", "is_names", "LoopError", "InvalidName", "InvalidForm", "InvalidLoop", "InvalidStart", "InvalidOperation", "InvalidNumber", "UnknownName", "TooMany", "MAX_TESTS", "MAX_MULTIPLIER", "MAX_STEP", "MAX_TEST_NUMBER", "MORE"]
def loose1 : List Str := ["LEAST", "SIGNS", "is_form", "is_small_form", "is_sign", "is_test", "is_step", "are_steps", "are_tests", "Loop", "require_sign", "require_form", "require_name", "_law_bowl", "_law_bit", "_law_pick", "_law_dealt", "_law_small", "_law_line", "_law_made_loop"]
def loose2 : List Str := ["_law_is_loop", "_law_met_error", "_law_wide_loop", "_law_other", "_law_test_edit", "_law_less_edit", "_law_step_edit", "_law_name_edit", "_law_right"]
def loose : List Str := loose0 ++ loose1 ++ loose2
def wd : WdL := []
abbrev hk : PySem.W.Hook := hookM 9 fa tb fn ls wd
def ob (s : PySem.W.SharedT) : AlX := obsMG 9 fa tb fn ls wd (HandSHeadRun.getT s)
theorem ob_eq (s : PySem.W.SharedT) : ob s = hk.obs s.abs := obsMG_eq (HandSHeadRun.getT_eq s)
theorem run (w : World) : HandSHeadRun.RunEq RR (PySem.W.view RR.prog [53]) hk ob 8000 loose w := by
  intro os
  kernel_rfl
end K11
namespace Mr
open PySem PySem.Spec PyProof.Rows L2
variable [Lam] [Pins]
section
variable {X : Cx} {W : WX} {k : Nat} {f : Addr} {fd : FuncData} {ps : List Str} {sp : Sp} {pins : List (Addr × Obj)} {σ : L2.St} {H : Hp} {s : Shared} {Q : VK} {c : Str} {m : List D → FR D}
end
end Mr
namespace Mr
open PySem PySem.Spec PyProof.Rows L2
def keyPy : Key → PyData
  | .inl i => .int i
  | .inr x => .str x
mutual
def pyX : D → PyData
  | .non => .none
  | .bl b => .bool b
  | .int i => .int i
  | .str x => .str x
  | .tup xs => .tuple (pyXs xs)
  | .lst xs => .list (pyXs xs)
  | .dct ks ds => .dict ((ks.map keyPy).zip (pyXs ds))
  | _ => .none
def pyXs : List D → List PyData
  | [] => []
  | x :: xs => pyX x :: pyXs xs
end
mutual
/-- data at most so deep, with dicts -/
def okX : Nat → D → Bool
  | _, .non => true
  | _, .bl _ => true
  | _, .int _ => true
  | _, .str _ => true
  | n, .tup xs => match n with | 0 => false | n + 1 => okXs n xs
  | n, .lst xs => match n with | 0 => false | n + 1 => okXs n xs
  | n, .dct ks ds => match n with | 0 => false | n + 1 => decide (ks.length = ds.length) && okXs n ds
  | _, _ => false
def okXs : Nat → List D → Bool
  | _, [] => true
  | n, x :: xs => okX n x && okXs n xs
end
theorem pyXs_len : ∀ xs : List D, (pyXs xs).length = xs.length
  | [] => rfl
  | x :: xs => by rw [pyXs, List.length_cons, List.length_cons, pyXs_len xs]
section
variable {X : Cx} {pins : List (Addr × Obj)} {σ : L2.St} {H : Hp} {s : Shared}
theorem no_sys (I : Inv X pins σ H s) (hS : (X.K.lookup sysModules).isSome = true) {a : Addr} {o : HO} (e : H a = some o) : a ≠ sysModules := fun z => by
  obtain ⟨ob, ho⟩ := Option.isSome_iff_exists.mp hS
  have b := I.ok.mod.kin _ _ ho
  have := (I.bs _ _ b).2
  rw [z, this] at e; cases e
theorem pairs_keys {h : Heap} {P : Program} {w : World} : ∀ {es : List DictEntry} {kvs : List (Key × Value)}, Pairs (mixKind P w) es kvs → ReadsAll h (es.map (·.key)) ((kvs.map (·.1)).map keyPy) []
  | _, _, .nil => .nil
  | _, _, .cons (e := e) (kv := kv) h1 h2 r => by
    have q := pairs_keys (h := h) r
    have h1 : keyIs kv.1 e.key = true := h1
    have e1 : Reads h e.key (keyPy kv.1) [] := by
      rcases keyIs_shape h1 with ⟨i, t, a, b⟩ | ⟨x, t, a, b⟩
      · rw [a, b]; exact .int i t
      · rw [a, b]; exact .str x t
    exact ReadsAll.cons e1 q
theorem pairs_vals {P : Program} {w : World} : ∀ {es : List DictEntry} {kvs : List (Key × Value)}, Pairs (mixKind P w) es kvs → es.map (·.val) = kvs.map (·.2)
  | _, _, .nil => rfl
  | _, _, .cons (e := e) (kv := kv) h1 h2 r => by rw [List.map_cons, List.map_cons, pairs_vals r, h2]
theorem kv_split : ∀ {ks : List Key} {vs : List V} {kvs : List (Key × Value)}, ks.length = vs.length → KV (ks.zip vs) kvs → kvs.map (·.1) = ks ∧ Vals vs (kvs.map (·.2))
  | [], [], _, _, h => by cases h; exact ⟨rfl, .nil⟩
  | [], _ :: _, _, l, _ => by cases l
  | _ :: _, [], _, l, _ => by cases l
  | k :: ks, v :: vs, _, l, h => by
    rw [List.zip_cons_cons] at h
    cases h with
    | cons a r =>
      obtain ⟨h1, h2⟩ := kv_split (by simpa using l) r
      exact ⟨by rw [List.map_cons, h1, ← a.1], .cons a.2 h2⟩
mutual
theorem repX (I : Inv X pins σ H s) (hS : (X.K.lookup sysModules).isSome = true) : ∀ (n : Nat) {v : V} {d : D} {u : Value}, Rep X.K H v d → okX n d = true → RelV v u → ∃ as, Reads s.heap u (pyX d) as ∧ ∀ a ∈ as, a ≠ sysModules
  | _, _, _, u, .non, _, ru => by
    obtain rfl : u = Value.none := ru
    exact ⟨[], .none, fun a h => nomatch h⟩
  | _, _, _, u, .bl b, _, ru => by
    obtain rfl : u = Value.bool b := ru
    exact ⟨[], .bool b, fun a h => nomatch h⟩
  | _, _, _, u, .int i, _, ru => by
    obtain ⟨t, rfl⟩ := ru
    exact ⟨[], .int i t, fun a h => nomatch h⟩
  | _, _, _, u, .str x, _, ru => by
    obtain ⟨t, rfl⟩ := ru
    exact ⟨[], .str x t, fun a h => nomatch h⟩
  | 0, _, _, _, .tup _ _, h, _ => by simp [okX] at h
  | n + 1, _, _, u, .tup (a := a) ht r, h, ru => by
    obtain rfl : u = Value.ref a := ru
    obtain ⟨its, rv, ⟨o, ho, hc, m, hd⟩, _⟩ := I.tuple ht
    obtain ⟨as, q, w⟩ := repsX I hS n r (by simpa [okX] using h) rv
    exact ⟨as, .tuple ho hc hd (by simpa using q), w⟩
  | 0, _, _, _, .lst _ _, h, _ => by simp [okX] at h
  | n + 1, _, _, u, .lst (a := a) ht r, h, ru => by
    obtain rfl : u = Value.ref a := ru
    obtain ⟨its, rv, ⟨o, m, ho, hc, hdn, hd⟩, _⟩ := I.list (.of ht)
    obtain ⟨as, q, w⟩ := repsX I hS n r (by simpa [okX] using h) rv
    exact ⟨a :: as, .list ho hc hd (by simpa using q), fun b hb => by
      rcases List.mem_cons.mp hb with rfl | hb
      · exact no_sys I hS ht
      · exact w b hb⟩
  | 0, _, _, _, .dct _ _ _, h, _ => by simp [okX] at h
  | n + 1, _, _, u, .dct (a := a) (ks := ks) (vs := vs) (ds := ds) ht l r, h, ru => by
    obtain rfl : u = Value.ref a := ru
    rw [okX, Bool.and_eq_true, decide_eq_true_eq] at h
    obtain ⟨_, _, kvs, kv, ⟨o, es, ep, ho, ⟨hc, _, _⟩, hd, _, hp, _⟩⟩ := dk_of I.hok ht
    obtain ⟨e1, e2⟩ := kv_split l kv
    obtain ⟨as, q, w⟩ := repsX I hS n r h.2 e2
    rw [← pairs_vals hp] at q
    have k1 := pairs_keys (h := s.heap) hp
    rw [e1] at k1
    have lz : (ks.map keyPy).length = (pyXs ds).length := by rw [List.length_map, pyXs_len, h.1]
    refine ⟨a :: [] ++ as, ?_, fun b hb => ?_⟩
    · rw [pyX]
      refine .dict ho hc hd ?_ ?_
      · rw [List.map_fst_zip (Nat.le_of_eq lz)]; exact k1
      · rw [List.map_snd_zip (Nat.le_of_eq lz.symm)]; exact q
    · simp only [List.cons_append, List.nil_append] at hb
      rcases List.mem_cons.mp hb with rfl | hb
      · exact no_sys I hS ht
      · exact w b hb
  | _, _, _, _, .frz _ _, h, _ => by simp [okX] at h
  | _, _, _, _, .obj _ _ _ _, h, _ => by simp [okX] at h
  | _, _, _, _, .opq _, h, _ => by simp [okX] at h
  | _, _, _, _, .any _ _, h, _ => by simp [okX] at h
theorem repsX (I : Inv X pins σ H s) (hS : (X.K.lookup sysModules).isSome = true) : ∀ (n : Nat) {vs : List V} {ds : List D} {us : List Value}, Reps X.K H vs ds → okXs n ds = true → Vals vs us → ∃ as, ReadsAll s.heap us (pyXs ds) as ∧ ∀ a ∈ as, a ≠ sysModules
  | _, _, _, _, .nil, _, .nil => ⟨[], .nil, fun a h => nomatch h⟩
  | n, _, _, _, .cons r1 r2, h, .cons a1 a2 => by
    rw [okXs, Bool.and_eq_true] at h
    obtain ⟨as, q, w⟩ := repX I hS n r1 h.1 a1
    obtain ⟨bs, q2, w2⟩ := repsX I hS n r2 h.2 a2
    exact ⟨as ++ bs, .cons q q2, fun b hb => (List.mem_append.mp hb).elim (w b) (w2 b)⟩
end
mutual
theorem okX_depth : ∀ (n : Nat) (d : D), okX n d = true → (pyX d).depth ≤ n
  | _, .non, _ => Nat.zero_le _
  | _, .bl _, _ => Nat.zero_le _
  | _, .int _, _ => Nat.zero_le _
  | _, .str _, _ => Nat.zero_le _
  | 0, .tup xs, h => by simp [okX] at h
  | n + 1, .tup xs, h => by
    have := okXs_depth n xs (by simpa [okX] using h)
    simp only [pyX, PyData.depth]; omega
  | 0, .lst xs, h => by simp [okX] at h
  | n + 1, .lst xs, h => by
    have := okXs_depth n xs (by simpa [okX] using h)
    simp only [pyX, PyData.depth]; omega
  | 0, .dct _ _, h => by simp [okX] at h
  | n + 1, .dct ks ds, h => by
    rw [okX, Bool.and_eq_true, decide_eq_true_eq] at h
    have := okXs_depth n ds h.2
    have k : ∀ (ks : List Key) (ps : List PyData), PyData.depthKv ((ks.map keyPy).zip ps) ≤ PyData.depthAll ps := fun ks => by
      induction ks with
      | nil => intro ps; exact Nat.zero_le _
      | cons k ks ih =>
        intro ps
        cases ps with
        | nil => exact Nat.zero_le _
        | cons p ps =>
          have z : (keyPy k).depth = 0 := by cases k <;> rfl
          have := ih ps
          rw [List.map_cons, List.zip_cons_cons]
          simp only [PyData.depthKv, PyData.depthAll]
          omega
    have := k ks (pyXs ds)
    simp only [pyX, PyData.depth]; omega
  | _, .frz _, h => by simp [okX] at h
  | _, .obj _ _ _, h => by simp [okX] at h
  | _, .opq _, h => by simp [okX] at h
  | _, .any, h => by simp [okX] at h
theorem okXs_depth : ∀ (n : Nat) (ds : List D), okXs n ds = true → PyData.depthAll (pyXs ds) ≤ n
  | _, [], _ => Nat.zero_le _
  | n, x :: xs, h => by
    rw [okXs, Bool.and_eq_true] at h
    have a := okX_depth n x h.1
    have b := okXs_depth n xs h.2
    simp only [pyXs, PyData.depthAll]; omega
end
end
variable [Lam] [Pins]
def rReprX (K : PySem.W.Frag) : List V → Hp → VK → Prop := fun vs H Q => ∃ v d, vs = [v] ∧ Rep K H v d ∧ okX 12 d = true ∧ (pyX d).showable = true ∧ (pyX d).shown.length ≤ sizeLine ∧ Q (.str (pyX d).shown) H
theorem call_reprX {X : Cx} (hS : (X.K.lookup sysModules).isSome = true) (hg : X.A.guards = some []) (hu : X.A.units + 64 < cLine) : CallR X (.builtin "repr") (rReprX X.K) := by
  intro pins s σ H xs us Q I r h
  obtain ⟨v, d, rfl, hd, od, sd, ld, q⟩ := h
  obtain ⟨u, rfl, ru⟩ : ∃ u, us = [u] ∧ RelV v u := by
    cases r with
    | cons r1 rr => cases rr; exact ⟨_, rfl, r1⟩
  obtain ⟨as, rd, w⟩ := repX I hS 12 hd od ru
  have dd := okX_depth 12 d od
  have fin : ∀ (h' : Heap) (t : Tok) (tk : Nat), (∀ b o, s.heap.get? b = some o → h'.get? b = some o) → EP X pins σ Q (.str (pyX d).shown t) { s with heap := h', toks := tk } := fun h' t tk k =>
    ⟨.str (pyX d).shown, H, I.kept (t' := tk) k, ⟨t, rfl⟩, q⟩
  generalize pyX d = p at rd sd ld fin dd
  cases u with
  | ref a => exact repr_of_reads' rd sd (fun _ m => w _ m rfl) hg (by omega) (fun b o e => e) (fun h' t tk k => fin h' t tk k) ld
  | none =>
    cases rd
    exact PySem.P.repr_of_none (fin s.heap _ _ fun _ _ e => e)
  | bool b =>
    cases rd
    refine PySem.P.repr_of_bool ?_
    have := fin s.heap s.toks (s.toks + 1) fun _ _ e => e
    rwa [PyData.shown_bool] at this
  | int i t =>
    cases rd
    refine PySem.P.repr_of_int (by simpa [PyData.showable] using sd) ?_
    have := fin s.heap s.toks (s.toks + 1) fun _ _ e => e
    rwa [PyData.shown_int] at this
  | str x t =>
    cases rd
    rw [PyData.shown_str] at ld
    refine PySem.P.repr_of_str ?_ ld
    have := fin s.heap s.toks (s.toks + 1) fun _ _ e => e
    rwa [PyData.shown_str] at this
  | _ => cases rd
/-- repr, also of dicts -/
def reprX : List D → FR D
  | [d] => if okX 12 d = true ∧ (pyX d).showable = true ∧ (pyX d).shown.length ≤ sizeLine then .ok (.str (pyX d).shown) else .stuck
  | _ => .stuck
theorem CA.reprX {X : Cx} {W : WX} (hS : (X.K.lookup sysModules).isSome = true) (hg : X.A.guards = some []) (hu : X.A.units + 64 < cLine) : CA X W (.builtin "repr") Mr.reprX := by
  refine ⟨_, call_reprX hS hg hu, fun G σ H F ρ vs ds Q S r hgd => ?_⟩
  unfold Mr.reprX at hgd
  split at hgd
  · rename_i d
    obtain ⟨v, rfl, rv⟩ := reps1 r
    split at hgd
    · rename_i hz
      obtain ⟨h1, h2, h3⟩ := hz
      exact ⟨v, d, rfl, rv.mono S.sub, h1, h2, h3, hgd H F S Sm.refl _ (.str _)⟩
    · exact hgd.elim
  · exact hgd.elim
end Mr
namespace Mr
open PySem PySem.Spec PyProof.Rows L2
variable [Lam] [Pins]
theorem reps_strs {K : PySem.W.Frag} {F : Hp} : ∀ (ys : List Str), Reps K F (ys.map V.str) (ys.map D.str)
  | [] => .nil
  | y :: ys => .cons (.str y) (reps_strs ys)
def splitN : D → D → FR (List D)
  | .str a, .str b => if (b.length == 0) = false ∧ a.length + 2 ≤ sizeLine then .ok ((Txt.split a b).map D.str) else .stuck
  | _, _ => .stuck
def wordsN : D → FR (List D)
  | .str a => if a.length + 2 ≤ sizeLine then .ok ((Txt.words a).map D.str) else .stuck
  | _ => .stuck
def mUnN (g : D → FR (List D)) (fo : M D) : M (List D) := fun ρ => (fo ρ).bind fun d ρ => (g d).lift ρ
/-- the object must be a text before the argument is read -/
def mSplitN (fo fe : M D) : M (List D) := fun ρ => (fo ρ).bind fun d ρ => match d with
  | .str a => (fe ρ).bind fun x ρ => (splitN (.str a) x).lift ρ
  | _ => .stuck
def upperD : D → FR D
  | .str a => if a.length ≤ 5592405 then .ok (.str (Txt.upper a)) else .stuck
  | _ => .stuck
section
variable {X : Cx} {W : WX} {o e : Expr} {fo fe : M D} {pos : Pos}
theorem AN.split {apos : Pos} (ho : AE X W o fo) (he : AE X W e fe) (hs : starEach [e] X.env = [(false, eval e X.env)] := by rfl) (hbase : attributeBase o "split" X.env (eval o X.env) = eval o X.env := by rfl) (hline : (apos.endLine == pos.line) = true := by rfl) :
    AN X W (.Call (.Attribute o "split" apos) [e] [] pos) (mSplitN fo fe) := by
  obtain ⟨to, po, qo⟩ := ho
  obtain ⟨te, pe, qe⟩ := he
  refine ⟨_, pe_split po pe hs hbase hline, fun G σ H F ρ Q S hg => qo G σ H F ρ _ S (hg.bind fun d ρ1 H1 F1 S1 s1 g1 v r1 => ?_)⟩
  cases r1 with
  | str a =>
    refine ⟨⟨a, rfl⟩, qe G σ H1 F1 ρ1 _ S1 (g1.bind fun d2 ρ2 H2 F2 S2 s2 g2 u r2 => ?_)⟩
    cases r2 with
    | str b =>
      unfold splitN at g2
      simp only at g2
      split at g2
      · rename_i hz
        exact ⟨a, b, rfl, rfl, hz.1, hz.2, fun p hp => newOwn S2 (reps_strs _) g2 hp⟩
      · exact g2.elim
    | _ => exact g2.elim
  | _ => exact g1.elim
theorem AN.words {apos : Pos} (ho : AE X W o fo) (hbase : attributeBase o "split" X.env (eval o X.env) = eval o X.env := by rfl) (hline : (apos.endLine == pos.line) = true := by rfl) :
    AN X W (.Call (.Attribute o "split" apos) [] [] pos) (mUnN wordsN fo) := by
  obtain ⟨to, po, qo⟩ := ho
  refine ⟨_, pe_words po hbase hline, fun G σ H F ρ Q S hg => qo G σ H F ρ _ S (hg.bind fun d ρ1 H1 F1 S1 s1 g1 v r1 => ?_)⟩
  cases r1 with
  | str a =>
    unfold wordsN at g1
    simp only at g1
    split at g1
    · rename_i hz
      exact ⟨⟨a, rfl⟩, a, rfl, rfl, hz, fun p hp => newOwn S1 (reps_strs _) g1 hp⟩
    · exact g1.elim
  | _ => exact g1.elim
theorem AE.upper {apos : Pos} (ho : AE X W o fo) (hbase : attributeBase o "upper" X.env (eval o X.env) = eval o X.env := by rfl) (hline : (apos.endLine == pos.line) = true := by rfl) :
    AE X W (.Call (.Attribute o "upper" apos) [] [] pos) (m1 upperD fo) := by
  obtain ⟨to, po, qo⟩ := ho
  refine ⟨_, pe_upper po hbase hline, fun G σ H F ρ Q S hg => qo G σ H F ρ _ S (hg.bind fun d ρ1 H1 F1 S1 s1 g1 v r1 => ?_)⟩
  cases r1 with
  | str a =>
    unfold upperD at g1
    simp only at g1
    split at g1
    · rename_i hz
      exact ⟨⟨a, rfl⟩, a, rfl, rfl, hz, g1 H1 F1 S1 Sm.refl _ (.str _)⟩
    · exact g1.elim
  | _ => exact g1.elim
end
theorem findK_some {K : PySem.W.Frag} {H : Hp} {k : Key} : ∀ {ks : List Key} {vs : List V} {ds : List D}, Reps K H vs ds → (valV (ks.zip vs) k).isSome = (findK ks ds k).isSome
  | [], _, _, _ => by rw [List.zip_nil_left]; rfl
  | _ :: _, _, _, .nil => rfl
  | q :: ks, _, _, .cons (v := v) (vs := vs) r t => by
    unfold findK
    split
    · rename_i e
      rw [List.zip_cons_cons, valV_pos (r := ks.zip vs) (p := (q, v)) e]; rfl
    · rename_i e
      rw [List.zip_cons_cons, valV_neg e]
      exact findK_some t
def ninX (a b : D) : FR D := match b with
  | .dct ks ds => (match keyD a with
    | some k => .ok (.bl (!(findK ks ds k).isSome))
    | none => .stuck)
  | _ => ninD a b
section
variable {X : Cx} {W : WX}
theorem op_ninK (hu : X.A.units + 64 < cLine) : OpR X (compareOp .NotIn) (fun x y H Q => ∃ a o, y = .ref a ∧ DGet H a x o ∧ Q (.bl (!o.isSome)) H) := by
  intro pins s σ H x y v u Q I rx ry h
  obtain ⟨a, o, rfl, g, q⟩ := h
  obtain rfl : u = Value.ref a := ry
  exact d_notIn (by omega) I g rx fun s3 I3 => ⟨.bl (!o.isSome), H, I3, rfl, q⟩
theorem OA.notInX (hu : X.A.units + 64 < cLine) : OA X W (compareOp .NotIn) Mr.ninX := by
  obtain ⟨r, p, q⟩ := OA.notIn (X := X) (W := W) hu
  refine ⟨_, p.or (op_ninK hu), fun G σ H F ρ x y dx dy Q S rx ry hg => ?_⟩
  cases ry with
  | dct h1 h2 h3 =>
    rename_i a0 ks vs0 ds
    unfold Mr.ninX at hg
    simp only at hg
    cases ek : keyD dx with
    | none => simp only [ek] at hg; exact hg.elim
    | some k =>
      simp only [ek] at hg
      have ev := keyD_v rx ek
      subst ev
      refine .inr ⟨_, _, rfl, DGet.k (S.sub _ _ h1), ?_⟩
      rw [findK_some h3]
      exact hg H F S Sm.refl _ (.bl _)
  | non => exact .inl (q G σ H F ρ _ _ _ _ Q S rx .non hg)
  | bl b => exact .inl (q G σ H F ρ _ _ _ _ Q S rx (.bl b) hg)
  | int i => exact .inl (q G σ H F ρ _ _ _ _ Q S rx (.int i) hg)
  | str z => exact .inl (q G σ H F ρ _ _ _ _ Q S rx (.str z) hg)
  | tup h1 h2 => exact .inl (q G σ H F ρ _ _ _ _ Q S rx (.tup h1 h2) hg)
  | lst h1 h2 => exact .inl (q G σ H F ρ _ _ _ _ Q S rx (.lst h1 h2) hg)
  | _ => cases dx <;> exact hg.elim
end
end Mr
namespace Mr
open PySem PySem.Spec PyProof.Rows L2 LiI
variable [Lam] [Pins]
/-- dict(list(e.items())) -/
def mCopyD (fe : M D) : M (List Key × List D) := fun ρ => (fe ρ).bind fun d ρ => match d with
  | .dct ks ds => if ks.Nodup then .ok (ks, ds) ρ else .stuck
  | _ => .stuck
theorem paired_sq {K : PySem.W.Frag} {H' : Hp} {ts : List Addr} {kvs : List (Key × V)} (h : Paired (fun (t : Addr) (q : Key × V) => H' t = some (.tup [kV q.1, q.2])) ts kvs) : Paired (fun (t : Addr) (q : Key × V) => SqT K H' t [kV q.1, q.2]) ts kvs := by
  induction h with
  | nil => exact .nil
  | cons a _ ih => exact .cons (.of a) ih
section
variable {X : Cx} {W : WX} {e : Expr} {fe : M D} {p p2 apos cpos lpos pos : Pos}
theorem AND.copy (hc : X.calm = true) (hg : Gl X "dict") (hm : X.mg "dict" = none) (hg2 : Gl X "list") (hm2 : X.mg "list" = none) (he : AE X W e fe) (hbase : attributeBase e "items" X.env (eval e X.env) = eval e X.env := by rfl) (hline : (apos.endLine == cpos.line) = true := by rfl)
    (hs : starEach [.Call (.Attribute e "items" apos) [] [] cpos] X.env = (false, eval (.Call (.Attribute e "items" apos) [] [] cpos) X.env) :: starEach [] X.env := by rfl)
    (hs2 : starEach [.Call (.Name "list" p2) [.Call (.Attribute e "items" apos) [] [] cpos] [] lpos] X.env = (false, eval (.Call (.Name "list" p2) [.Call (.Attribute e "items" apos) [] [] cpos] [] lpos) X.env) :: starEach [] X.env := by rfl)
    (hpl : (backTo pos (starEach [] X.env)).any (·.1) = false := by rfl) :
    AND X W (.Call (.Name "dict" p) [.Call (.Name "list" p2) [.Call (.Attribute e "items" apos) [] [] cpos] [] lpos] [] pos) (mCopyD fe) := by
  obtain ⟨t, pe, qe⟩ := he
  refine ⟨_, pe_callTy (T := "dict") (call_dictP hc) hg hm (by decide +kernel) (pa_cons (pe_listItems hc pe hg2 hm2 (by decide +kernel) hbase hline hs) pa_nil hs2) (by decide) (by decide) hs2 hpl, fun G σ H F ρ Q S hgd => qe G σ H F ρ _ S (hgd.bind fun d ρ1 H1 F1 S1 s1 g1 v r1 => ?_)⟩
  cases r1 with
  | dct h1 l h3 =>
    rename_i a0 ks vs ds
    simp only [mCopyD] at g1
    split at g1
    · rename_i hn
      refine ⟨_, _, rfl, S1.sub _ _ h1, fun H' q ts k hq hts hqt e1 e2 => ?_⟩
      refine ⟨q, ts, ks.zip vs, rfl, .of e1, paired_sq e2, fun p0 np => ?_⟩
      have em : mergeK [] (ks.zip vs) = ks.zip vs := by
        rw [merge_nodup _ [] (by rw [List.nil_append, List.map_fst_zip (by omega)]; exact hn)]; rfl
      rw [em]
      have S2 : Stt X.K G σ H' F1 ρ1 := S1.grow (Sm.t fun b o z => k b o z) (fun b o z => k b o (S1.sub b o z)) Sm.refl (fun a o z => .inl z) S1.ft
      exact g1 H' F1 S2 Sm.refl p0 vs _ (S2.xtNew np) l h3
    · exact g1.elim
  | _ => exact g1.elim
end
end Mr
namespace SrtR
open PySem PyProof.Rows Srt SrtO
section
variable {prog : Program} {w : World} {A : Around} {E : Value → Shared → Prop} {s : Shared}
end
end SrtR
namespace Mr
open PySem PySem.Spec PyProof.Rows L2
section
variable [Lam] [Pins]
variable {X : Cx} {W : WX} {e : Expr} {fa : M D} {pos : Pos}
end
variable [Lam] [Pins]
section
variable {X : Cx} {W : WX} {e : Expr} {fa : M D} {pos : Pos}
end
end Mr
namespace Mr
open PySem PySem.Spec PyProof.Rows
abbrev ZipO (f0 : Value) (b : Bool) (TI TO : Addr) : Obj := { cls := .type "zip", dict := none, data := .fields #[f0, .bool b, .bool false, .ref TI, .ref TO], slots := #[] }
/-- n iterators from N on -/
def refsF (N : Nat) (n : Nat) : List Value := (List.range n).map fun k => .ref (N + k)
abbrev TupO (vs : List Value) : Obj := { cls := .type "tuple", data := .seq vs.toArray }
theorem nea {a b : Nat} (h : a < b ∨ b < a) : a ≠ b := fun e => by omega
/-- the cells of a zip over n tuples (at ad), its iterators at f -/
structure ZSt (N n : Nat) (ad : Nat → Nat) (f : Nat → Nat) (f0 : Value) (b : Bool) (vs : List Value) (h : Heap) : Prop where
  z : h.get? (N + n + 2) = some (ZipO f0 b (N + n) (N + n + 1))
  ti : h.get? (N + n) = some (TupO (refsF N n))
  to : h.get? (N + n + 1) = some (TupO vs)
  lv : vs.length = n
  it : ∀ k, k < n → h.IsTupleIter (N + k) (ad k) (f k)
section
variable {prog : Program} {w : World} {A : Around} {E : Value → Shared → Prop} {s : Shared}
end
/-- outside of the zip's cells -/
def OutZ (N n : Nat) (h h' : Heap) : Prop := ∀ (c : Nat) o, (c < N ∨ N + n + 2 < c) → h.get? c = some o → h'.get? c = some o
theorem OutZ.tr {N n : Nat} {h h' h'' : Heap} (a : OutZ N n h h') (b : OutZ N n h' h'') : OutZ N n h h'' := fun c o hc e => b c o hc (a c o hc e)
theorem OutZ.same {N n : Nat} {h h' : Heap} {x : Nat} (hs : Heap.SameBut x h h') (h1 : N ≤ x) (h2 : x ≤ N + n + 2) : OutZ N n h h' := fun c o hc e => hs.extBut c o (nea (by omega)) e
theorem OutZ.tup {N n : Nat} {h h' : Heap} {a : Nat} {its : Array Value} (o : OutZ N n h h') (ha : a < N) (t : h.IsTuple a its) : h'.IsTuple a its := t.at fun u e => o a u (.inl ha) e
section
variable {prog : Program} {w : World} {A : Around} {E : Value → Shared → Prop} {s : Shared} {N n i : Nat} {ad : Nat → Nat} {its : Nat → Array Value} {f0 : Value} {b : Bool} {vs : List Value}
end
section
variable {prog : Program} {w : World} {A : Around} {E : Value → Shared → Prop} {s : Shared} {n : Nat} {ad : Nat → Nat} {its : Nat → Array Value}
end
end Mr
namespace Mr
open PySem PySem.Spec PyProof.Rows L2
variable [Lam] [Pins]
section
variable {X : Cx} {W : WX}
end
end Mr
namespace Mr
open PySem PySem.Spec PyProof.Rows L2
variable [Lam] [Pins]
section
variable {X : Cx} {W : WX} {o e : Expr} {fo fe : M D} {apos pos : Pos}
omit [Lam] [Pins] in
theorem iop_fdivP : OpR X (inplaceOp .FloorDiv) (rI divOk fun i j => .int (i.fdiv j)) := opI fun _ _ _ _ _ _ _ hc q => ifloordiv_int hc.1 q (.inl hc.2)
theorem IA.div : IA X W .FloorDiv divD := OA.ofI iop_fdivP (fun G σ H F ρ i j Q S hg => by
    simp only [divD] at hg
    split at hg
    · rename_i hz; exact ⟨i, j, rfl, rfl, hz, hg H F S Sm.refl _ (.int _)⟩
    · exact hg.elim) fun dx dy => by
  cases dx <;> cases dy <;> first | exact .inl rfl | exact .inr ⟨_, _, rfl, rfl⟩
end
end Mr
namespace Mr
open PySem PySem.Spec PyProof.Rows L2
/-- f"m{y}" -/
abbrev argF (m y : Str) (j : Nat) (p3 q1 q2 q3 : Pos) : Expr := .JoinedStr [.Constant (.str m) j p3, .FormattedValue (.Name y q1) (-1) none q2] q3
def ArgC (m : Str) (u : Value) : Prop := ∃ i t, u = .int i t ∧ i.natAbs.log2 < 1920 ∧ (m ++ toString i).length ≤ sizeLine
def ArgV (m : Str) (v : V) : Prop := ∃ i : Int, v = .int i ∧ i.natAbs.log2 < 1920 ∧ (m ++ toString i).length ≤ sizeLine
theorem ArgV.val {m : Str} {v : V} {u : Value} (h : ArgV m v) (r : RelV v u) : ArgC m u := by
  obtain ⟨i, rfl, h1, h2⟩ := h
  obtain ⟨t, rfl⟩ := r
  exact ⟨i, t, rfl, h1, h2⟩
/-- what the body's shape asks of its environment -/
def InitEnvF (qual : Str) (scope : Scope) (f y m : Str) (j : Nat) (p0 p1 p2 p3 p4 p5 p6 p7 p8 p9 q1 q2 q3 : Pos) : Prop := ∀ L g cda cc : Addr,
  interactive (PySem.W.ksEnv qual scope L g (.ref cda) cc) = false ∧
  swapsWith (.Call (.Attribute (.Call (.Name "super" p0) [] [] p1) "__init__" p2) [argF m y j p3 q1 q2 q3] [] p4) none p5.line (PySem.W.ksEnv qual scope L g (.ref cda) cc) = pure false ∧
  swapsWith (.Name y p8) (some (.Attribute (.Name "self" p6) f p7)) p9.line (PySem.W.ksEnv qual scope L g (.ref cda) cc) = pure false ∧
  ∃ pl : Sem Bool, eval (.Call (.Attribute (.Call (.Name "super" p0) [] [] p1) "__init__" p2) [argF m y j p3 q1 q2 q3] [] p4) (PySem.W.ksEnv qual scope L g (.ref cda) cc) = (do
    let ov ← attributeBase (.Call (.Name "super" p0) [] [] p1) "__init__" (PySem.W.ksEnv qual scope L g (.ref cda) cc) (eval (.Call (.Name "super" p0) [] [] p1) (PySem.W.ksEnv qual scope L g (.ref cda) cc))
    standAt p2.atName
    let (f, first) ← holding [ov] (getMethod ov "__init__" pl)
    callWith p4 f first (backTo p4 (starEach [argF m y j p3 q1 q2 q3] (PySem.W.ksEnv qual scope L g (.ref cda) cc))) [])
/-- what the top has left of an own error C that keeps its one value as f: fI is its __init__ (self, y) -/
structure ErrF (prog : Program) (K : PySem.W.Frag) (C fI : Addr) (f y m : Str) (B newId initId : String) (bmB : List Value) : Prop where
  base : ExBase B newId initId bmB
  init : PySem.W.findIn K (.ref C) "__init__" = some (some (.ref fI))
  made : PySem.W.excInitIn K C bmB newId = true
  isf : PySem.W.isFn K (.ref fI) = true
  sa : PySem.W.findIn K (.ref C) "__setattr__" = some (some (.builtin "object.__setattr__"))
  over : PySem.W.excOver K C bmB = true
  tk : PySem.W.takerIn K C f = some none
  hd : PySem.W.hasDictIn K C = true
  sup : PySem.W.ks_superIn K C C "__init__" = some (some (.builtin initId))
  subB : PySem.W.subIn K (.ref C) (.type B) = some true
  exC : PySem.W.subIn K (.ref C) (.type "BaseException") = some true
  tyC : PySem.W.typeIn K (.ref C) = some (.type "type")
  kC : PySem.W.keepIn K (.ref C) = true
  opq : PySem.W.nsIn K cStatics "thirdparty.any" = some none
  slf : PySem.W.mroIn K C (.ref C) = some true
  clsC : ∃ cd, PySem.W.clsIn K C = some cd
  fn : ∃ (name qual : Str) (params : Arguments) (body : List Stmt) (scope : Scope) (kV doc pm ct oc : Value) (an od : Option Addr) (osl : Array (Option Value)) (cc cda : Addr) (cl : Value) (cld : Option Addr) (csl : Array (Option Value)) (ccl : Value) (cdd : Option Addr) (ccs : Array (Option Value)) (vs : Array Value) (file : Str) (tf : Tok) (j : Nat) (pa pb p0 p1 p2 p3 p4 p5 p6 p7 p8 p9 q1 q2 q3 : Pos),
    K.lookup fI = some ⟨oc, od, .func (PySem.W.ksFn name qual params body scope .none kV doc pm an (.ref cda) ct cc), osl⟩ ∧ PySem.W.codeIn K (.ref cda) qual = true ∧
    params = { posonlyargs := [], args := [⟨"self", none, pa⟩, ⟨y, none, pb⟩], vararg := none, kwonlyargs := [], kw_defaults := [], kwarg := none, defaults := [] } ∧
    body = [.Expr (.Call (.Attribute (.Call (.Name "super" p0) [] [] p1) "__init__" p2) [argF m y j p3 q1 q2 q3] [] p4) p5, .Assign [.Attribute (.Name "self" p6) f p7] (.Name y p8) p9] ∧
    scope.kind = .function ∧ scope.isCoroutine = false ∧ scope.isGenerator = false ∧ (∀ x ∈ scope.names, x.2 ≠ .cell) ∧
    scope.names.lookup ("self" : Str) = some .local ∧ scope.names.lookup y = some .local ∧ scope.names.lookup ("super" : Str) = some .globalImplicit ∧ scope.names.lookup ("__class__" : Str) = some .free ∧
    InitEnvF qual scope f y m j p0 p1 p2 p3 p4 p5 p6 p7 p8 p9 q1 q2 q3 ∧ (∀ a b : Value, bindArgs (PySem.W.ksFn name qual params body scope .none kV doc pm an (.ref cda) ct cc) ⟨[a, b], []⟩ = pure [(("self" : Str), a), (y, b)]) ∧ (("self" : Str) == y) = false ∧ (y == ("__debug__" : Str)) = false ∧
    K.lookup cc = some ⟨cl, cld, .cell (some (.ref C)), csl⟩ ∧ K.lookup cda = some ⟨ccl, cdd, .fields vs, ccs⟩ ∧ vs[2]? = some (.str file tf) ∧ ((prog.main.file : Str) == file) = true
  htop : (prog.main.scope.names.lookup ("super" : Str)).isSome = false
section
variable [Lam] [Pins] {X : Cx} {W : WX}
end
end Mr
namespace GQ
open PySem PySem.SeqAt
open AutoSeq1 (wpAny_loadPart')
open MeetsSeq MeetsSeq2 MeetsSeq3 SeqRoads2
section
variable {prog : Program} {w : World} {A : Around} {R : Result → Shared → Prop}
end
section
variable {prog : Program} {w : World} {A : Around} {E : Value → Shared → Prop} {s : Shared}
end
end GQ
namespace Mr
open PySem PySem.Spec PyProof.Rows L2
variable [Lam] [Pins]
section
variable {X : Cx} {W : WX} {k : Nat} {f : Addr} {fd : FuncData} {ps : List Str} {sp : Sp} {c : Str} {m : List D → FR D}
end
end Mr
namespace Mr
open PySem PySem.Spec PyProof.Rows L2
variable [Lam] [Pins]
section
variable {X : Cx} {W : WX}
end
end Mr
namespace Mr
open PySem PySem.Spec PyProof.Rows L2
variable [Lam] [Pins]
section
variable {X : Cx} {W : WX}
end
end Mr
namespace GNext
open PySem PySem.Spec PyProof.Rows L2 LamX
section
variable {X : Cx} {pins : List (Addr × Obj)} {σ : L2.St} {H : Hp} {s : Shared}
end
section
variable {prog : Program} {w : World} {A : Around} {E : Value → Shared → Prop} {s : Shared}
end
section
variable {X : Cx}
end
end GNext
namespace GNext
open PySem PySem.Spec PyProof.Rows L2 LamX
section
variable {X : Cx} {σ : L2.St} {H1 : Hp}
end
end GNext
namespace Mr
open PySem PySem.Spec PyProof.Rows L2 LamX
section
variable [Lam] [P0 : Pins]
end
end Mr
namespace RevT
open PySem PySem.Spec PyProof.Rows L2 HT
section
variable {prog : Program} {w : World} {A : Around} {E : Value → Shared → Prop} {s : Shared}
end
section
variable {X : Cx}
end
end RevT
namespace Mr
open PySem PySem.Spec PyProof.Rows L2
section
variable [Lam] [P0 : Pins]
end
end Mr
namespace Mr
open PySem PySem.Spec PyProof.Rows L2
/-- x.count(k): the list is looked at ahead of the argument -/
def mCount (fo fe : M D) : M D := fun ρ => (fo ρ).bind fun x ρ => match x with
  | .lst xs => (fe ρ).bind fun k ρ => match k, intsD xs with
    | .int k, some ns => .ok (.int (ns.count k : Nat)) ρ
    | _, _ => .stuck
  | _ => .stuck
section
variable [Lam] [P0 : Pins]
variable {X : Cx} {W : WX}
theorem AE.count {o e : Expr} {fo fe : M D} {ap cp : Pos} (ho : AE X W o fo) (ha : AE X W e fe) (hst : starEach [e] X.env = (false, eval e X.env) :: starEach [] X.env := by rfl)
    (hbase : attributeBase o "count" X.env (eval o X.env) = eval o X.env := by rfl)
    (hfew : ((backTo cp (starEach [e] X.env)).all (fun x => !x.1) && (backToKw cp (keywordEach [] X.env)).all (fun x => x.1.isSome)
      && decide ([e].length + ([] : List Keyword).length + (if ([] : List Keyword).isEmpty then 0 else 1) < 30)) = true := by rfl)
    (hline : (ap.endLine == cp.line) = true := by rfl) (hplain : (backTo cp (starEach [] X.env)).any (·.1) = false := by rfl) :
    AE X W (.Call (.Attribute o "count" ap) [e] [] cp) (mCount fo fe) := by
  obtain ⟨to, po, qo⟩ := ho
  obtain ⟨t, p, q⟩ := ha
  refine ⟨_, pe_bm PySem.F.plainAttrs_list PySem.F.slot_list_count PySem.F.type_list_count mt_lcount po (pa_cons p pa_nil hst) hbase hfew hline hst hplain, fun G σ H F ρ Q S hg => ?_⟩
  refine qo G σ H F ρ _ S (hg.bind fun d ρ1 H1 F1 S1 s1 g1 v r1 => ?_)
  cases r1 with
  | lst hx rx =>
    refine ⟨.inl ⟨rfl, _, .of (S1.sub _ _ hx)⟩, q G σ H1 F1 ρ1 _ S1 (Good.bind g1 fun k ρ2 H2 F2 S2 s2 g2 u r2 => ?_)⟩
    split at g2
    · rename_i k0 k ns hn
      cases r2
      have ev := reps_ints rx hn
      subst ev
      exact ⟨_, ns, k, rfl, rfl, .of (S2.sub _ _ (s2 _ _ hx)), g2 H2 F2 S2 Sm.refl _ (.int _)⟩
    · exact g2.elim
  | _ => exact g1.elim
end
end Mr
namespace Mr
open PySem PySem.Spec PyProof.Rows L2
section
variable {prog : Program} {w : World} {A : Around} {E : Value → Shared → Prop}
end
section
variable [Lam] [P0 : Pins]
variable {X : Cx} {W : WX}
end
end Mr
namespace Mr
open PySem PySem.Spec PyProof.Rows L2
/-- .. not covered -/
def mStuck : M D := fun _ => .stuck
variable [Lam] [Pins]
theorem AE.stuck {X : Cx} {W : WX} {e : Expr} : AE X W e mStuck := ⟨fun _ _ _ => False, ⟨fun _ _ _ _ _ _ h => h.elim⟩, fun _ _ _ _ _ _ _ hg => hg.elim⟩
end Mr
namespace Mr
open PySem PySem.Spec PyProof.Rows L2
/-- where a global name leads -/
def adM (mg : Str → Option Value) (x : Str) : V := match mg x with
  | some (.ref a) => .ref a
  | _ => .non
theorem adM_eq {mg : Str → Option Value} {x : Str} {a : Addr} (h : mg x = some (.ref a)) : adM mg x = .ref a := by unfold adM; rw [h]
open Classical in
/-- the def that a value is -/
noncomputable def pickF {α : Type} : List (V × α) → V → Option α
  | [], _ => none
  | (u, m) :: r, v => if v = u then some m else pickF r v
theorem pickF_mem {α : Type} : ∀ {cs : List (V × α)} {v : V} {m : α}, pickF cs v = some m → (v, m) ∈ cs
  | (u, m) :: r, v, m', h => by
    unfold pickF at h
    split at h
    · rename_i e
      cases h; subst e; exact List.mem_cons_self ..
    · exact List.mem_cons_of_mem _ (pickF_mem h)
theorem pickF_some {α : Type} : ∀ {cs : List (V × α)} {v : V}, v ∈ cs.map (·.1) → ∃ m, pickF cs v = some m ∧ m ∈ cs.map (·.2)
  | (u, m) :: r, v, h => by
    unfold pickF
    split
    · exact ⟨m, rfl, List.mem_cons_self ..⟩
    · rename_i ne
      obtain ⟨m', e, z⟩ := pickF_some (cs := r) (v := v) (by
        rcases List.mem_cons.mp h with h | h
        · exact (ne h).elim
        · exact h)
      exact ⟨m', e, List.mem_cons_of_mem _ z⟩
/-- y(x, ..), y a name that holds one of some defs -/
noncomputable def mIoL (cs : List (V × (SV → List D → IR))) (n i j : Nat) (fs : M (List D)) : M D := fun ρ => match ρ.getD i .un with
  | .val (.opq v) => match pickF cs v with
    | some m => mIo m n j fs ρ
    | none => .stuck
  | _ => .stuck
section
variable [Lam] [Pins]
variable {X : Cx} {W : WX} {k n i j : Nat} {f : Addr} {fd : FuncData} {ps : List Str} {x y : Str} {p py pos : Pos} {e : Expr} {es : List Expr} {fs : M (List D)} {mi : SV → List D → IR}
theorem AE.fnv {a : Addr} (hg : Gl X x) (hm : X.mg x = some (.ref a)) (hdb : (x == ("__debug__" : Str)) = false := by decide) : AE X W (.Name x p) (mC (.opq (adM X.mg x))) :=
  ⟨_, pe_glob (v := .ref a) hg hm rfl hdb, fun G σ H F ρ Q S hgd => hgd H F S Sm.refl _ (by rw [adM_eq hm]; exact .opq _)⟩
theorem pe_callL {sp : Sp} {dV : List Value} {dvs : List V} {ta : TA} (h0 : PE X (.Name x p) (tVar i)) (Fn : FnG X.prog X.w X.K X.mg X.base k f fd ps sp) (hr : RoomG k X.A) (hk : PySem.W.keepIn X.K (.ref f) = true) (hb : Binds X.K fd ps dV) (hd : Vals dvs dV) (tk : Takes X W)
    (ha : PA X (e :: es) ta) (he : starEach (e :: es) X.env = (false, eval e X.env) :: starEach es X.env := by rfl) (hpl : (backTo pos (starEach es X.env)).any (·.1) = false := by rfl) :
    PE X (.Call (.Name x p) (e :: es) [] pos) (fun σ H Q => σ[i]? = some (some (.ref f)) ∧ tCallW W sp dvs ta σ H Q) := by
  refine ⟨fun pins s σ H Q I h => ?_⟩
  obtain ⟨h1, h2⟩ := h
  refine wpAny_Call_Name_kw (thn (h0.run pins s σ H (fun v H2 => v = .ref f ∧ H2 = H) I ⟨.ref f, h1, rfl, rfl⟩) fun u s1 hv => ?_)
  obtain ⟨v, H2, I2, rv, ev, eH⟩ := hv
  subst ev eH
  obtain rfl : u = Value.ref f := rv
  refine PySem.W.callWith_K (h₀ := X.base) I2.ok.mod.kin hk ?_ he hpl
  refine thn (ha.run pos pins s1 σ H2 _ I2 h2) fun us s2 ⟨vs, H1, I1, r, q⟩ => ?_
  exact ⟨I1.kIn, run_fnW Fn hr hb hd tk I1 r q⟩
/-- what is known of one of the defs -/
abbrev FnC (X : Cx) (k n : Nat) (c : V × (SV → List D → IR)) : Prop := ∃ (f : Addr) (fd : FuncData) (ps : List Str), c.1 = .ref f ∧ FnG X.prog X.w X.K X.mg X.base k f fd ps (ISp X.K n c.2) ∧ PySem.W.keepIn X.K (.ref f) = true ∧ Binds X.K fd ps []
theorem AE.callIoL {cs : List (V × (SV → List D → IR))} (hr : RoomG k X.A) (tk : Takes X W) (hl : PE X (.Name x p) (tVar i)) (hc : ∀ c ∈ cs, FnC X k n c)
    (h0 : PE X (.Name y py) (tVar j)) (ha : AA X W es fs) (he : starEach (.Name y py :: es) X.env = (false, eval (.Name y py) X.env) :: starEach es X.env := by rfl) (hpl : (backTo pos (starEach es X.env)).any (·.1) = false := by rfl) :
    AE X W (.Call (.Name x p) (.Name y py :: es) [] pos) (mIoL cs n i j fs) := by
  obtain ⟨t, pa, qa⟩ := ha
  refine ⟨fun σ H Q => ∃ t, PE X (.Call (.Name x p) (.Name y py :: es) [] pos) t ∧ t σ H Q, ⟨fun pins s σ H Q I ⟨t, pt, h⟩ => pt.run pins s σ H Q I h⟩, fun G σ H F ρ Q S hgd => ?_⟩
  unfold mIoL at hgd
  split at hgd
  · rename_i v ev
    split at hgd
    · rename_i m em
      obtain ⟨f, fd, ps, e0, Fn, hk, hb⟩ := hc _ (pickF_mem em)
      have e0 : v = .ref f := e0
      have Fn : FnG X.prog X.w X.K X.mg X.base k f fd ps (ISp X.K n m) := Fn
      subst e0
      have qi := S.at_ i
      rw [ev] at qi
      obtain ⟨u, e1, ru⟩ := qi
      cases ru
      refine ⟨_, pe_callL (W := W) hl Fn hr hk hb .nil tk (pa_cons h0 pa he) he hpl, e1, ?_⟩
      unfold mIo at hgd
      split at hgd
      · rename_i ho
        obtain ⟨a, o, e1, _, _, _⟩ := (S.at_ j).there ho
        refine ⟨_, e1, qa G σ H F ρ _ S (hgd.bind fun ds ρ1 H1 F1 S1 s1 g1 vs r1 => ?_)⟩
        split at g1
        · rename_i hz
          have q := S1.at_ j
          rw [e1] at q
          refine ⟨by rw [List.append_nil, List.length_cons, r1.length, hz.1], F1, a, vs, _, ds, by rw [List.append_nil], S1.pre, q.flag true, (flag_io hz.2).1, r1, ?_⟩
          show GoodI X.K a H1 F1 (m ((ρ1.getD j .un).flag true) ds) Q (WE W σ)
          have back : ∀ {sv : SV} {H' F' : Hp}, AftIo X.K a sv H1 F1 H' F' → Stt X.K G σ H' F' (ρ1.set j (sv.flag (ρ1.getD j .un).isIo)) := fun {sv H' F'} A =>
            S1.change hz.2 e1 A.h A.sub A.f A.new (A.ft S1.ft) (A.at_.flag _) (flag_io (SV.own_of_io A.own)).2 ((flag_io (SV.own_of_io A.own)).1.trans (own_io_hd hz.2))
          cases em : m ((ρ1.getD j .un).flag true) ds with
          | ok d sv =>
            rw [em] at g1
            exact fun v H' F' A rv => g1 H' F' (back A) A.f v rv
          | exc xx sv =>
            rw [em] at g1
            exact fun d H' F' A rv => g1 d H' F' (back A) A.f rv
          | stuck => rw [em] at g1; exact g1
        · exact g1.elim
      · exact hgd.elim
    · exact hgd.elim
  · exact hgd.elim
end
/-- the greatest of some ints -/
def maxI : Int → List Int → Int
  | a, [] => a
  | a, b :: r => maxI (if b > a then b else a) r
theorem maxI_ge : ∀ (r : List Int) (a y : Int), y ∈ a :: r → y ≤ maxI a r
  | [], a, y, h => by
    obtain rfl : y = a := by simpa using h
    exact Int.le_refl _
  | b :: r, a, y, h => by
    show y ≤ maxI (if b > a then b else a) r
    have q := maxI_ge r (if b > a then b else a)
    have h0 := q _ (List.mem_cons_self ..)
    rcases List.mem_cons.mp h with h | h
    · subst h
      refine Int.le_trans ?_ h0
      split <;> omega
    · rcases List.mem_cons.mp h with h | h
      · subst h
        refine Int.le_trans ?_ h0
        split <;> omega
      · exact q y (List.mem_cons_of_mem _ h)
theorem maxI_mem : ∀ (r : List Int) (a : Int), maxI a r ∈ a :: r
  | [], a => List.mem_cons_self ..
  | b :: r, a => by
    show maxI (if b > a then b else a) r ∈ a :: b :: r
    rcases List.mem_cons.mp (maxI_mem r (if b > a then b else a)) with h | h
    · rw [h]
      split
      · exact List.mem_cons_of_mem _ (List.mem_cons_self ..)
      · exact List.mem_cons_self ..
    · exact List.mem_cons_of_mem _ (List.mem_cons_of_mem _ h)
def maxH (xs : List D) : FR D := match intsD xs with
  | some (n :: ns) => .ok (.int (maxI n ns))
  | _ => .stuck
def maxLD : List D → FR D
  | [.lst xs] => maxH xs
  | _ => .stuck
section
variable [Lam] [Pins]
variable {X : Cx} {W : WX}
theorem CA.maxL (hc : X.calm = true) : CA X W (.builtin "max") maxLD := by
  refine ⟨_, cr_max hc, fun G σ H F ρ vs ds Q S r hg => ?_⟩
  obtain ⟨a, ws, xs, rfl, h1, h2, h3⟩ := one_lst (h := maxH) (fun _ => rfl) S r hg
  unfold maxH at h3
  cases e : intsD xs with
  | none => rw [e] at h3; exact h3.elim
  | some ns =>
    rw [e] at h3
    rw [reps_ints h2 e] at h1
    cases ns with
    | nil => exact h3.elim
    | cons n ns =>
      refine ⟨a, n :: ns, rfl, .of h1, by simp, fun m m1 m2 => ?_⟩
      have em : m = maxI n ns := Int.le_antisymm (maxI_ge ns n m m1) (m2 _ (maxI_mem ns n))
      rw [em]
      exact h3 H F S Sm.refl _ (.int _)
end
section
variable [Lam] [Pins]
/-- a law's end: the function that its def computes answers true at every script, wherever its names lead -/
theorem walk_endA {l : PySem.W.OpenLaw} {n k dep : Nat} {q : Program} {loose : List Str} {XP : (Str → Option Value) → Heap → Prop} {fas : List He.Fa} {tbs : List (PySem.W.Frag → Bool)} {fns : List DefM} {ls : List LamM} {wd : WdL} {d : DefRec} {x : Str} {m : (Str → V) → List D → FR D}
    (hT : ∀ K, Lam.T K = lamT ls K) (hn : l.most = some n) (hn2 : n ≤ sizeLine) (hdf : d.params.defaults = []) (hr : RoomG k callerA)
    (F : ∀ (w : World) (K : PySem.W.Frag) (mg : Str → Option Value) (h : Heap) (fa : Addr), K.In h → h.Ns mainGlobals mg → SaysM fas tbs fns K → lamB ls K = true → WdAt wd w K → mg d.name = some (.ref fa) →
      ∃ fd : FuncData, (∀ (s : Shared) (u : Value), BindsTo s fd ⟨[u], []⟩ [(x, u)]) ∧ ∀ base : Heap, FnG l.prog w K mg base k fa fd [x] (PSp K 1 (m (adM mg))))
    (hm : ∀ (ad : Str → V) (ns : List Int), ns.length ≤ n → (∀ z ∈ ns, Builtin.Int.intBits z ≤ 1048576) → m ad [.frz (ns.map .int)] = .ok (.bl true)) :
    PySem.W.WalkO q loose XP (hookM dep fas tbs fns ls wd).says l.row.toRowW d [] (fun f vs => PySem.call f vs) := by
  refine Att.attach_callB hn hdf fun w s₀ s₁ mg mb fa o pm cd doc a vs ns G Y ho hd hcd hmg hobj hints hlen hbits hg => ?_
  obtain ⟨K, KX, c, ⟨l1, l2⟩, dW⟩ := Y
  obtain ⟨fd, hb, hF⟩ := F w K mg _ fa KX G.T.g c l1 dW hmg
  refine law_callG ((Lam.T K).map (·.1)) (fun P hP => ?_) KX G.T.g G.T.b G.T.builtins G.T.nolimit hg hobj hints (Nat.le_trans hlen hn2) hr hF hb (fun H hH hS => law_psp hH hS (hm _ ns hlen hbits)) fun H e s' hc => ?_
  · obtain ⟨p, hp, rfl⟩ := List.mem_map.mp hP
    rw [hT] at hp
    have g := l2 p hp
    obtain ⟨y, hy, rfl⟩ := List.mem_map.mp hp
    obtain ⟨_, h2⟩ := He.ba (List.all_eq_true.mp (He.ba l1).1 y hy)
    obtain ⟨h2, h3⟩ := He.ba h2
    obtain ⟨_, h4⟩ := He.ba h3
    obtain ⟨_, h5⟩ := He.ba h4
    exact ⟨⟨_, h2⟩, Option.isNone_iff_eq_none.mp h5, g⟩
  · obtain ⟨_, _, _, _, _, _, _, _, _, _, _, _, h⟩ := hc
    exact h.elim
end
end Mr
namespace Pm
open PySem PySem.Spec PyProof.Rows L2 Mr
noncomputable def b__law_bowl : M Fl :=
  (xSeq (xPut (.sl 2) (mIf (tOf (m2 ltD (mVar 1) (mL lenD (mCons (mVar 0) mNil)))) (m2 ixD (mVar 0) (mVar 1)) (m2 addD (m2 mulD (mC (.int 61)) (mVar 1)) (mC (.int 31)))))
  (xSeq (xPut (.sl 3) (m2 modD (mL intD (mCons (mL absD (mCons (mVar 2) mNil)) mNil)) (m2 powD (m2 powD (mC (.int 10)) (mC (.int 61))) (mC (.int 11)))))
  (xSeq (xPut (.sl 4) (m2 addD (m2 addD (m2 addD (m2 mulD (m2 modD (mL intD (mCons (mVar 3) mNil)) (mC (.int 2147483269))) (mC (.int 95273))) (m2 mulD (mC (.int 9403)) (mVar 1))) (m2 mulD (mC (.int 43)) (mL intD (mCons (m2 ltD (mVar 2) (mC (.int 0))) mNil)))) (mC (.int 71))))
  (xRetN (mLstN (mCons (mL max2D (mCons (mC (.int 0)) (mCons (m2 subD (mVar 3) (m2 powD (mC (.int 10)) (mC (.int 18)))) mNil))) (mCons (m2 modD (mL intD (mCons (mVar 4) mNil)) (mC (.int 2305843009213693907))) (mCons (mC (.int 0)) mNil))))))))
noncomputable def m__law_bowl : List D → FR (List D) := runN 5 b__law_bowl
noncomputable def b_is_integer : M Fl :=
  (xRet (mAnd (mL isiD (mCons (mVar 0) (mCons (mC (.opq (.ty "int"))) mNil))) (mAnd (m1 notD (mL isiD (mCons (mVar 0) (mCons (mC (.opq (.ty "bool"))) mNil)))) (mChain leD leD (m1 negD (mC (.int c_GREATEST))) (mVar 0) (mC (.int c_GREATEST))))))
noncomputable def m_is_integer : List D → FR D := runF 1 b_is_integer
noncomputable def b__law_bit : M Fl :=
  (xSeq (xIf (tOf (m2 gtD (mIxN 0 (mC (.int 0))) (mC (.int 0)))) (xSeq (xPut (.sl 4) (m2 modD (mL intD (mCons (mIxN 0 (mC (.int 0))) mNil)) (mVar 1)))
  (xSeq (xSetIx 0 (m2 divD (mIxN 0 (mC (.int 0))) (mVar 1)) (mC (.int 0)))
  (xRet (mVar 4)))) xNx)
  (xSeq (xSetIx 0 (m2 addD (mIxN 0 (mC (.int 2))) (mC (.int 1))) (mC (.int 2)))
  (xSeq (xPut (.sl 2) (m2 modD (mL intD (mCons (m2 addD (mIxN 0 (mC (.int 1))) (m2 mulD (mC (.int 1000427)) (mIxN 0 (mC (.int 2))))) mNil)) (mC (.int 2305843009213693951))))
  (xSeq (xPut (.sl 3) (m2 addD (m2 mulD (m2 modD (mL intD (mCons (m2 mulD (mVar 2) (mVar 2)) mNil)) (mC (.int 2305843009213693921))) (mVar 2)) (m2 mulD (mC (.int 9091)) (mIxN 0 (mC (.int 2))))))
  (xRet (m2 modD (mL intD (mCons (m2 divD (m2 modD (mL intD (mCons (mVar 3) mNil)) (mC (.int 2305843009213693907))) (mC (.int 16384))) mNil)) (mVar 1)))))))
noncomputable def m__law_bit : SV → List D → IR := runI 5 b__law_bit
noncomputable def b__law_pick : M Fl :=
  (xRet (m2 ixD (mVar 1) (mIo m__law_bit 1 0 (mCons (mL lenD (mCons (mVar 1) mNil)) mNil))))
noncomputable def m__law_pick : SV → List D → IR := runI 2 b__law_pick
noncomputable def b__law_small : M Fl :=
  (xSeq (xPut (.sl 2) (mIo m__law_bit 1 0 (mCons (mC (.int 4)) mNil)))
  (xRet (mIf (tOf (m2 ltD (mVar 2) (mC (.int 2)))) (mVar 2) (m2 subD (mIo m__law_bit 1 0 (mCons (m2 addD (m2 mulD (mC (.int 2)) (mVar 1)) (mC (.int 1))) mNil)) (mVar 1)))))
noncomputable def m__law_small : SV → List D → IR := runI 3 b__law_small
noncomputable def e1__law_line : M D :=
  (mIo m__law_small 1 0 (mCons (mVar 2) mNil))
noncomputable def q1__law_line : M (List D) :=
  mLc (mItL range1D (mCons (mVar 1) mNil)) [3] (.sl 3) tYesM e1__law_line
noncomputable def b__law_line : M Fl :=
  (xRet (mL tupleD (mCons (mOfN q1__law_line) mNil)))
noncomputable def m__law_line : SV → List D → IR := runI 4 b__law_line
noncomputable def e1__law_dealt : M D :=
  (mPopAt 2 (mIo m__law_bit 1 0 (mCons (mLenN 2) mNil)))
noncomputable def q1__law_dealt : M (List D) :=
  mLc (mItL range1D (mCons (mL lenD (mCons (mVar 1) mNil)) mNil)) [3] (.sl 3) tYesM e1__law_dealt
noncomputable def b__law_dealt : M Fl :=
  (xSeq (xOwn 2 (mListN (mCons (mVar 1) mNil)))
  (xRet (mOfN q1__law_dealt)))
noncomputable def m__law_dealt : SV → List D → IR := runI 4 b__law_dealt
noncomputable def e1_is_name : M D :=
  (mChain leD leD (mC (.str (Str.ofString "a"))) (mVar 1) (mC (.str (Str.ofString "z"))))
noncomputable def q1_is_name : M (List D) :=
  mLc (mWalk (mVar 0)) [1] (.sl 1) tYesM e1_is_name
noncomputable def b_is_name : M Fl :=
  (xSeq (xIf (tOr (tNot (tOf (mL isiD (mCons (mVar 0) (mCons (mC (.opq (.ty "str"))) mNil))))) (tNot (tOf (mChain leD leD (mC (.int 1)) (mL lenD (mCons (mVar 0) mNil)) (mC (.int c_MAX_LETTERS)))))) (xRet (mC (.bl false))) xNx)
  (xRet (mL allD (mCons (mOfN q1_is_name) mNil))))
noncomputable def m_is_name : List D → FR D := runF 2 b_is_name
noncomputable def e1_is_names : M D :=
  (mCall m_is_name 1 [] (mCons (mVar 1) mNil))
noncomputable def q1_is_names : M (List D) :=
  mLc (mWalk (mVar 0)) [1] (.sl 1) tYesM e1_is_names
noncomputable def b_is_names : M Fl :=
  (xSeq (xIf (tOr (tNot (tOf (mL isiD (mCons (mVar 0) (mCons (mC (.opq (.ty "tuple"))) mNil))))) (tNot (tOf (mChain leD leD (mC (.int 1)) (mL lenD (mCons (mVar 0) mNil)) (mC (.int c_MOST_NAMES)))))) (xRet (mC (.bl false))) xNx)
  (xRet (mAnd (mL allD (mCons (mOfN q1_is_names) mNil)) (m2 eqD (m1 lenSetD (mVar 0)) (mL lenD (mCons (mVar 0) mNil))))))
noncomputable def m_is_names : List D → FR D := runF 2 b_is_names
noncomputable def e1_is_form : M D :=
  (mCall m_is_integer 1 [] (mCons (mVar 2) mNil))
noncomputable def q1_is_form : M (List D) :=
  mLc (mWalk (mVar 0)) [2] (.sl 2) tYesM e1_is_form
noncomputable def b_is_form : M Fl :=
  (xRet (mAnd (mL isiD (mCons (mVar 0) (mCons (mC (.opq (.ty "tuple"))) mNil))) (mAnd (m2 eqD (mL lenD (mCons (mVar 0) mNil)) (mVar 1)) (mL allD (mCons (mOfN q1_is_form) mNil)))))
noncomputable def m_is_form : List D → FR D := runF 3 b_is_form
noncomputable def e1_is_small_form : M D :=
  (mChain leD leD (m1 negD (mVar 2)) (mVar 3) (mVar 2))
noncomputable def q1_is_small_form : M (List D) :=
  mLc (mWalk (mVar 0)) [3] (.sl 3) tYesM e1_is_small_form
noncomputable def b_is_small_form : M Fl :=
  (xRet (mAnd (mCall m_is_form 2 [] (mCons (mVar 0) (mCons (mVar 1) mNil))) (mL allD (mCons (mOfN q1_is_small_form) mNil))))
noncomputable def m_is_small_form : List D → FR D := runF 4 b_is_small_form
noncomputable def e1_is_step : M D :=
  (m2 eqD (mVar 3) (mC (.int 0)))
noncomputable def q1_is_step : M (List D) :=
  mLc (mWalk (mSlice (mVar 0) (mOSome (m2 addD (mVar 2) (mC (.int 1)))) mONone)) [3] (.sl 3) tYesM e1_is_step
noncomputable def b_is_step : M Fl :=
  (xSeq (xIf (tOr (tNot (tOf (mCall m_is_small_form 3 [] (mCons (mVar 0) (mCons (mVar 1) (mCons (mC (.int c_MAX_STEP)) mNil)))))) (tNot (tOf (mChain leD leD (m1 negD (mC (.int c_MAX_MULTIPLIER))) (m2 ixD (mVar 0) (mVar 2)) (mC (.int c_MAX_MULTIPLIER)))))) (xRet (mC (.bl false))) xNx)
  (xRet (mL allD (mCons (mOfN q1_is_step) mNil))))
noncomputable def m_is_step : List D → FR D := runF 4 b_is_step
noncomputable def e1_are_steps : M D :=
  (mCall m_is_step 3 [] (mCons (mVar 3) (mCons (mVar 1) (mCons (m2 addD (mVar 2) (mC (.int 1))) mNil))))
noncomputable def q1_are_steps : M (List D) :=
  mLc (mItL enumD (mCons (mVar 0) mNil)) [2, 3] (.tp [(.sl 2), (.sl 3)]) tYesM e1_are_steps
noncomputable def b_are_steps : M Fl :=
  (xSeq (xIf (tOr (tNot (tOf (mL isiD (mCons (mVar 0) (mCons (mC (.opq (.ty "tuple"))) mNil))))) (tOf (m2 neD (mL lenD (mCons (mVar 0) mNil)) (m2 subD (mVar 1) (mC (.int 1)))))) (xRet (mC (.bl false))) xNx)
  (xRet (mL allD (mCons (mOfN q1_are_steps) mNil))))
noncomputable def m_are_steps : List D → FR D := runF 4 b_are_steps
noncomputable def b_is_sign : M Fl :=
  (xRet (mAnd (mL isiD (mCons (mVar 0) (mCons (mC (.opq (.ty "str"))) mNil))) (m2 inD (mVar 0) (mC (.tup c_SIGNS)))))
noncomputable def m_is_sign : List D → FR D := runF 1 b_is_sign
noncomputable def b_is_test : M Fl :=
  (xSeq (xIf (tOr (tNot (tOf (mL isiD (mCons (mVar 0) (mCons (mC (.opq (.ty "tuple"))) mNil))))) (tOf (m2 neD (mL lenD (mCons (mVar 0) mNil)) (mC (.int 2))))) (xRet (mC (.bl false))) xNx)
  (xRet (mAnd (mCall m_is_sign 1 [] (mCons (m2 ixD (mVar 0) (mC (.int 0))) mNil)) (mCall m_is_small_form 3 [] (mCons (m2 ixD (mVar 0) (mC (.int 1))) (mCons (mVar 1) (mCons (mC (.int c_MAX_TEST_NUMBER)) mNil)))))))
noncomputable def m_is_test : List D → FR D := runF 2 b_is_test
noncomputable def e1_are_tests : M D :=
  (mCall m_is_test 2 [] (mCons (mVar 2) (mCons (mVar 1) mNil)))
noncomputable def q1_are_tests : M (List D) :=
  mLc (mWalk (mVar 0)) [2] (.sl 2) tYesM e1_are_tests
noncomputable def b_are_tests : M Fl :=
  (xSeq (xIf (tOr (tNot (tOf (mL isiD (mCons (mVar 0) (mCons (mC (.opq (.ty "tuple"))) mNil))))) (tNot (tOf (mChain leD leD (mC (.int 1)) (mL lenD (mCons (mVar 0) mNil)) (mC (.int c_MAX_TESTS)))))) (xRet (mC (.bl false))) xNx)
  (xRet (mL allD (mCons (mOfN q1_are_tests) mNil))))
noncomputable def m_are_tests : List D → FR D := runF 3 b_are_tests
noncomputable def d1_Loop___init__ : M D :=
  mDc (mItL zipMD (mCons (mVar 1) (mCons (mVar 2) mNil))) [4, 5] (.tp [(.sl 4), (.sl 5)]) tYesM (mVar 4) (mVar 5)
noncomputable def e1_Loop___init__ : M D :=
  (mC (.int 0))
noncomputable def q1_Loop___init__ : M (List D) :=
  mLc (mWalk (mVar 1)) [4] (.sl 4) tYesM e1_Loop___init__
noncomputable def b_Loop___init__ : M Fl :=
  (xSeq (xIf (tNot (tOf (mCall m_is_names 1 [] (mCons (mVar 1) mNil)))) (xRaise (Str.ofString "InvalidName")) xNx)
  (xSeq (xIf (tOr (tNot (tOf (mCall m_are_steps 2 [] (mCons (mVar 2) (mCons (m2 addD (mL lenD (mCons (mVar 1) mNil)) (mC (.int 1))) mNil))))) (tNot (tOf (mCall m_are_tests 2 [] (mCons (mVar 3) (mCons (m2 addD (mL lenD (mCons (mVar 1) mNil)) (mC (.int 1))) mNil)))))) (xRaise (Str.ofString "InvalidLoop")) xNx)
  (xSeq (xFld 0 "Loop" "own_names" (mVar 1))
  (xSeq (xFld 0 "Loop" "own_steps" (mVar 2))
  (xSeq (xFld 0 "Loop" "own_by_name" d1_Loop___init__)
  (xSeq (xFld 0 "Loop" "own_tests" (mVar 3))
  (xSeq (xFld 0 "Loop" "own_width" (m2 addD (mL lenD (mCons (mVar 1) mNil)) (mC (.int 1))))
  (xFld 0 "Loop" "own_matrix" (mL tupD (mCons (mL tupD (mCons (mC (.int 1)) (mStar (mOfN q1_Loop___init__) mNil))) (mStar (mVar 2) mNil)))))))))))
noncomputable def m_Loop___init__ : SV → List D → IR := runI 6 b_Loop___init__
noncomputable def y1__law_wide_loop : M Fl :=
  (xSeq (xPut (.sl 7) (mIo m__law_pick 1 0 (mCons (mL lstD (mCons (mC (.int 0)) (mCons (mC (.int 1)) (mCons (m1 negD (mC (.int 1))) (mCons (mC (.int 9)) (mCons (m1 negD (mC (.int 9))) (mCons (mC (.int 3)) mNil))))))) mNil)))
  (xDrop (mApp 5 (m2 addD (m2 addD (mIo m__law_line 2 0 (mCons (m2 addD (mVar 2) (mC (.int 1))) (mCons (mC (.int 20)) mNil))) (mL tupD (mCons (mVar 7) mNil))) (m2 mulD (mL tupD (mCons (mC (.int 0)) mNil)) (m2 subD (m2 subD (mVar 4) (mVar 2)) (mC (.int 1))))))))
noncomputable def f1__law_wide_loop : M Fl :=
  xFor (mItL range1D (mCons (mVar 4) mNil)) (.sl 2) y1__law_wide_loop
noncomputable def y2__law_wide_loop : M Fl :=
  (xDrop (mApp 6 (mL tupD (mCons (mIo m__law_pick 1 0 (mCons (mL lstD (mCons (mC (.str (Str.ofString "more"))) (mCons (mC (.str (Str.ofString "least"))) mNil))) mNil)) (mCons (mIo m__law_line 2 0 (mCons (m2 addD (mVar 4) (mC (.int 1))) (mCons (mC (.int 99)) mNil))) mNil)))))
noncomputable def f2__law_wide_loop : M Fl :=
  xFor (mItL range1D (mCons (m2 addD (mC (.int 1)) (mIo m__law_bit 1 0 (mCons (mC (.int 4)) mNil))) mNil)) (.sl 3) y2__law_wide_loop
noncomputable def b__law_wide_loop : M Fl :=
  (xSeq (xPut (.sl 1) (mL tupleD (mCons (mSlice (mIo m__law_dealt 1 0 (mCons (mL lstD (mCons (mC (.str (Str.ofString "x"))) (mCons (mC (.str (Str.ofString "y"))) (mCons (mC (.str (Str.ofString "a"))) (mCons (mC (.str (Str.ofString "total"))) (mCons (mC (.str (Str.ofString "zzzzzzzz"))) (mCons (mC (.str (Str.ofString "n"))) mNil))))))) mNil)) mONone (mOSome (m2 addD (mC (.int 1)) (mIo m__law_bit 1 0 (mCons (mC (.int 3)) mNil))))) mNil)))
  (xSeq (xParM [4, 5, 6] (mMV (mL lenD (mCons (mVar 1) mNil)) (mMN (mLstN mNil) (mMN (mLstN mNil) mMNil))))
  (xSeq f1__law_wide_loop
  (xSeq f2__law_wide_loop
  (xRet (mDict [.inr (Str.ofString "words"), .inr (Str.ofString "moves"), .inr (Str.ofString "checks")] (mCons (mVar 1) (mCons (mL tupleD (mCons (mVar 5) mNil)) (mCons (mL tupleD (mCons (mVar 6) mNil)) mNil)))))))))
noncomputable def m__law_wide_loop : SV → List D → IR := runI 8 b__law_wide_loop
noncomputable def b__law_made_loop : M Fl :=
  (xRet (mMake "Loop" m_Loop___init__ 3 [] (mCons (m2 dgetD (mVar 0) (mC (.str (Str.ofString "words")))) (mCons (m2 dgetD (mVar 0) (mC (.str (Str.ofString "moves")))) (mCons (m2 dgetD (mVar 0) (mC (.str (Str.ofString "checks")))) mNil)))))
noncomputable def m__law_made_loop : List D → FR D := runF 1 b__law_made_loop
noncomputable def b_Loop_matrix : M Fl :=
  (xRet (m1 (fldD ["Loop"] "own_matrix") (mVar 0)))
noncomputable def m_Loop_matrix : List D → FR D := runF 1 b_Loop_matrix
noncomputable def b_Loop_width : M Fl :=
  (xRet (m1 (fldD ["Loop"] "own_width") (mVar 0)))
noncomputable def m_Loop_width : List D → FR D := runF 1 b_Loop_width
noncomputable def e1_Loop_multipliers : M D :=
  (m2 ixD (mVar 2) (m2 addD (mVar 1) (mC (.int 1))))
noncomputable def q1_Loop_multipliers : M (List D) :=
  mLc (mItL enumD (mCons (m1 (fldD ["Loop"] "own_steps") (mVar 0)) mNil)) [1, 2] (.tp [(.sl 1), (.sl 2)]) tYesM e1_Loop_multipliers
noncomputable def b_Loop_multipliers : M Fl :=
  (xRet (mL tupleD (mCons (mOfN q1_Loop_multipliers) mNil)))
noncomputable def m_Loop_multipliers : List D → FR D := runF 3 b_Loop_multipliers
noncomputable def b_Loop___len__ : M Fl :=
  (xRet (mL lenD (mCons (m1 (fldD ["Loop"] "own_tests") (mVar 0)) mNil)))
noncomputable def m_Loop___len__ : List D → FR D := runF 1 b_Loop___len__
noncomputable def b_Loop___str__ : M Fl :=
  (xRet (mFstr (jCons (mC (.str (Str.ofString "loop of "))) (jCons (m1 fmtD (mL lenD (mCons (m1 (fldD ["Loop"] "own_names") (mVar 0)) mNil))) (jCons (mC (.str (Str.ofString " names, "))) (jCons (m1 fmtD (mL lenD (mCons (m1 (fldD ["Loop"] "own_tests") (mVar 0)) mNil))) (jCons (mC (.str (Str.ofString " tests"))) jNil)))))))
noncomputable def m_Loop___str__ : List D → FR D := runF 1 b_Loop___str__
noncomputable def b_Loop_names : M Fl :=
  (xRet (m1 (fldD ["Loop"] "own_names") (mVar 0)))
noncomputable def m_Loop_names : List D → FR D := runF 1 b_Loop_names
noncomputable def b_Loop_steps : M Fl :=
  (xRet (m1 (fldD ["Loop"] "own_steps") (mVar 0)))
noncomputable def m_Loop_steps : List D → FR D := runF 1 b_Loop_steps
noncomputable def b_Loop_tests : M Fl :=
  (xRet (m1 (fldD ["Loop"] "own_tests") (mVar 0)))
noncomputable def m_Loop_tests : List D → FR D := runF 1 b_Loop_tests
noncomputable def b_Loop___contains__ : M Fl :=
  (xRet (mAnd (mL isiD (mCons (mVar 1) (mCons (mC (.opq (.ty "str"))) mNil))) (m2 inD (mVar 1) (m1 (fldD ["Loop"] "own_names") (mVar 0)))))
noncomputable def m_Loop___contains__ : List D → FR D := runF 2 b_Loop___contains__
noncomputable def b_Loop___getitem__ : M Fl :=
  (xSeq (xIf (tOr (tNot (tOf (mL isiD (mCons (mVar 1) (mCons (mC (.opq (.ty "str"))) mNil))))) (tOf (m2 Mr.ninX (mVar 1) (m1 (fldD ["Loop"] "own_by_name") (mVar 0))))) (xRaiseI (Str.ofString "UnknownName") (Str.ofString "name") (mVar 1)) xNx)
  (xRet (m2 dgetD (m1 (fldD ["Loop"] "own_by_name") (mVar 0)) (mVar 1))))
noncomputable def m_Loop___getitem__ : List D → FR D := runF 2 b_Loop___getitem__
noncomputable def e1__law_is_loop : M D :=
  (m2 ixD (mVar 8) (m2 addD (mVar 7) (mC (.int 1))))
noncomputable def q1__law_is_loop : M (List D) :=
  mLc (mItL enumD (mCons (mVar 4) mNil)) [7, 8] (.tp [(.sl 7), (.sl 8)]) tYesM e1__law_is_loop
noncomputable def e2__law_is_loop : M D :=
  (mVar 9)
noncomputable def q2__law_is_loop : M (List D) :=
  mLc (mItL zipMD (mCons (mVar 3) (mCons (mVar 4) mNil))) [9, 8] (.tp [(.sl 9), (.sl 8)]) (tOr (tOf (m2 neD (mL Mr.reprX (mCons (m2 (ixW "Loop" m_Loop___getitem__) (mVar 0) (mVar 9)) mNil)) (mL Mr.reprX (mCons (mVar 8) mNil)))) (tOf (m2 (ninO "Loop" m_Loop___contains__) (mVar 9) (mVar 0)))) e2__law_is_loop
noncomputable def b__law_is_loop : M Fl :=
  (xSeq (xPar 3 4 (mCons (m2 dgetD (mVar 1) (mC (.str (Str.ofString "words")))) (mCons (m2 dgetD (mVar 1) (mC (.str (Str.ofString "moves")))) mNil)))
  (xSeq (xPar 5 6 (mCons (m2 dgetD (mVar 1) (mC (.str (Str.ofString "checks")))) (mCons (mL lenD (mCons (mVar 3) mNil)) mNil)))
  (xSeq (xIf (tOr (tOf (m2 neD (mL Mr.reprX (mCons (mL lstD (mCons (m1 (clsD [(Str.ofString "Loop", m_Loop_names)]) (mVar 0)) (mCons (m1 (clsD [(Str.ofString "Loop", m_Loop_steps)]) (mVar 0)) (mCons (m1 (clsD [(Str.ofString "Loop", m_Loop_tests)]) (mVar 0)) mNil)))) mNil)) (mL Mr.reprX (mCons (mL lstD (mCons (mVar 3) (mCons (mVar 4) (mCons (mVar 5) mNil)))) mNil)))) (tOf (m2 neD (m1 (clsD [(Str.ofString "Loop", m_Loop_width)]) (mVar 0)) (m2 addD (mVar 6) (mC (.int 1)))))) (xRet (mC (.bl false))) xNx)
  (xSeq (xPut (.sl 2) (mL tupleD (mCons (mOfN q1__law_is_loop) mNil)))
  (xSeq (xIf (tOr (tOf (m2 neD (m1 (clsD [(Str.ofString "Loop", m_Loop_multipliers)]) (mVar 0)) (mVar 2))) (tOf (m2 neD (mL (lenW "Loop" m_Loop___len__) (mCons (mVar 0) mNil)) (mL lenD (mCons (mVar 5) mNil))))) (xRet (mC (.bl false))) xNx)
  (xSeq (xIf (tOf (m2 neD (mL Mr.reprX (mCons (m1 (clsD [(Str.ofString "Loop", m_Loop_matrix)]) (mVar 0)) mNil)) (mL Mr.reprX (mCons (m2 addD (mL tupD (mCons (m2 addD (mL tupD (mCons (mC (.int 1)) mNil)) (m2 mulD (mL tupD (mCons (mC (.int 0)) mNil)) (mVar 6))) mNil)) (mVar 4)) mNil)))) (xRet (mC (.bl false))) xNx)
  (xSeq (xIf (tOf (m2 neD (mOfN q2__law_is_loop) (mL lstD mNil))) (xRet (mC (.bl false))) xNx)
  (xRet (m2 eqD (mOfN (mSplitN (mL (strW "Loop" m_Loop___str__) (mCons (mVar 0) mNil)) (mC (.str (Str.ofString " "))))) (mL lstD (mCons (mC (.str (Str.ofString "loop"))) (mCons (mC (.str (Str.ofString "of"))) (mCons (mL strD (mCons (mVar 6) mNil)) (mCons (mC (.str (Str.ofString "names,"))) (mCons (mL strD (mCons (mL lenD (mCons (mVar 5) mNil)) mNil)) (mCons (mC (.str (Str.ofString "tests"))) mNil))))))))))))))))
noncomputable def m__law_is_loop : List D → FR D := runF 10 b__law_is_loop
noncomputable def g__law_met_error_k13 : FR D → M Fl := fun r =>
  (xTry (xRet (mThunk r)) [⟨[(Str.ofString "InvalidForm", false), (Str.ofString "InvalidLoop", false), (Str.ofString "InvalidName", true), (Str.ofString "InvalidNumber", false), (Str.ofString "InvalidOperation", false), (Str.ofString "UnknownName", false)], none, fun y => (xRet (mC (.str (Str.ofString "word"))))⟩, ⟨[(Str.ofString "InvalidForm", true), (Str.ofString "InvalidLoop", false), (Str.ofString "InvalidName", false), (Str.ofString "InvalidNumber", false), (Str.ofString "InvalidOperation", false), (Str.ofString "UnknownName", false)], none, fun y => (xRet (mC (.str (Str.ofString "form"))))⟩, ⟨[(Str.ofString "InvalidForm", false), (Str.ofString "InvalidLoop", true), (Str.ofString "InvalidName", false), (Str.ofString "InvalidNumber", false), (Str.ofString "InvalidOperation", false), (Str.ofString "UnknownName", false)], none, fun y => (xRet (mC (.str (Str.ofString "loop"))))⟩, ⟨[(Str.ofString "InvalidForm", false), (Str.ofString "InvalidLoop", false), (Str.ofString "InvalidName", false), (Str.ofString "InvalidNumber", false), (Str.ofString "InvalidOperation", false), (Str.ofString "UnknownName", false)], none, fun y => (xRet (mC (.str (Str.ofString "start"))))⟩, ⟨[(Str.ofString "InvalidForm", false), (Str.ofString "InvalidLoop", false), (Str.ofString "InvalidName", false), (Str.ofString "InvalidNumber", false), (Str.ofString "InvalidOperation", true), (Str.ofString "UnknownName", false)], none, fun y => (xRet (mC (.str (Str.ofString "operation"))))⟩, ⟨[(Str.ofString "InvalidForm", false), (Str.ofString "InvalidLoop", false), (Str.ofString "InvalidName", false), (Str.ofString "InvalidNumber", true), (Str.ofString "InvalidOperation", false), (Str.ofString "UnknownName", false)], some 1, fun y => (xRet (m2 addD (mC (.str (Str.ofString "number "))) (mL Mr.reprX (mCons (mErrF 1 y (Str.ofString "value")) mNil))))⟩, ⟨[(Str.ofString "InvalidForm", false), (Str.ofString "InvalidLoop", false), (Str.ofString "InvalidName", false), (Str.ofString "InvalidNumber", false), (Str.ofString "InvalidOperation", false), (Str.ofString "UnknownName", true)], some 1, fun y => (xRet (m2 addD (mC (.str (Str.ofString "name "))) (mL Mr.reprX (mCons (mErrF 1 y (Str.ofString "name")) mNil))))⟩, ⟨[(Str.ofString "InvalidForm", false), (Str.ofString "InvalidLoop", false), (Str.ofString "InvalidName", false), (Str.ofString "InvalidNumber", false), (Str.ofString "InvalidOperation", false), (Str.ofString "UnknownName", false)], some 1, fun y => (xRet (m2 addD (mC (.str (Str.ofString "too "))) (mL Mr.reprX (mCons (mErrF 1 y (Str.ofString "limit")) mNil))))⟩])
noncomputable def m__law_met_error_k13 : FR D → FR D := fun r => runT 2 (g__law_met_error_k13 r)
noncomputable def b_require_name : M Fl :=
  (xIf (tOr (tNot (tOf (mL isiD (mCons (mVar 1) (mCons (mC (.opq (.ty "str"))) mNil))))) (tOf (m2 ninD (mVar 1) (m1 (fldD ["Loop"] "own_names") (mVar 0))))) (xRaiseI (Str.ofString "UnknownName") (Str.ofString "name") (mVar 1)) xNx)
noncomputable def m_require_name : List D → FR D := runF 2 b_require_name
noncomputable def b_require_form : M Fl :=
  (xIf (tNot (tOf (mCall m_is_form 2 [] (mCons (mVar 1) (mCons (m1 (fldD ["Loop"] "own_width") (mVar 0)) mNil))))) (xRaise (Str.ofString "InvalidForm")) xNx)
noncomputable def m_require_form : List D → FR D := runF 2 b_require_form
noncomputable def e1_Loop_with_step : M D :=
  (mIf (tOf (m2 eqD (mVar 4) (mVar 1))) (mVar 2) (mVar 5))
noncomputable def q1_Loop_with_step : M (List D) :=
  mLc (mItL zipMD (mCons (m1 (fldD ["Loop"] "own_names") (mVar 0)) (mCons (m1 (fldD ["Loop"] "own_steps") (mVar 0)) mNil))) [4, 5] (.tp [(.sl 4), (.sl 5)]) tYesM e1_Loop_with_step
noncomputable def b_Loop_with_step : M Fl :=
  (xSeq (xDrop (mCall m_require_name 2 [] (mCons (mVar 0) (mCons (mVar 1) mNil))))
  (xSeq (xDrop (mCall m_require_form 2 [] (mCons (mVar 0) (mCons (mVar 2) mNil))))
  (xSeq (xPut (.sl 3) (mOfN q1_Loop_with_step))
  (xRet (mMake "Loop" m_Loop___init__ 3 [] (mCons (m1 (fldD ["Loop"] "own_names") (mVar 0)) (mCons (mL tupleD (mCons (mVar 3) mNil)) (mCons (m1 (fldD ["Loop"] "own_tests") (mVar 0)) mNil))))))))
noncomputable def m_Loop_with_step : List D → FR D := runF 6 b_Loop_with_step
noncomputable def b_require_sign : M Fl :=
  (xIf (tNot (tOf (mCall m_is_sign 1 [] (mCons (mVar 0) mNil)))) (xRaise (Str.ofString "InvalidOperation")) xNx)
noncomputable def m_require_sign : List D → FR D := runF 1 b_require_sign
noncomputable def b_Loop_with_test : M Fl :=
  (xSeq (xDrop (mCall m_require_sign 1 [] (mCons (mVar 1) mNil)))
  (xSeq (xDrop (mCall m_require_form 2 [] (mCons (mVar 0) (mCons (mVar 2) mNil))))
  (xRet (mMake "Loop" m_Loop___init__ 3 [] (mCons (m1 (fldD ["Loop"] "own_names") (mVar 0)) (mCons (m1 (fldD ["Loop"] "own_steps") (mVar 0)) (mCons (mL tupD (mStar (m1 (fldD ["Loop"] "own_tests") (mVar 0)) (mCons (mL tupD (mCons (mVar 1) (mCons (mVar 2) mNil))) mNil))) mNil)))))))
noncomputable def m_Loop_with_test : List D → FR D := runF 3 b_Loop_with_test
noncomputable def e1_Loop_without_test : M D :=
  (mVar 4)
noncomputable def q1_Loop_without_test : M (List D) :=
  mLc (mItL enumD (mCons (m1 (fldD ["Loop"] "own_tests") (mVar 0)) mNil)) [3, 4] (.tp [(.sl 3), (.sl 4)]) (tOf (m2 neD (mVar 3) (mVar 1))) e1_Loop_without_test
noncomputable def b_Loop_without_test : M Fl :=
  (xSeq (xIf (tOr (tNot (tOf (mCall m_is_integer 1 [] (mCons (mVar 1) mNil)))) (tNot (tOf (mChain leD ltD (mC (.int 0)) (mVar 1) (mL lenD (mCons (m1 (fldD ["Loop"] "own_tests") (mVar 0)) mNil)))))) (xRaiseI (Str.ofString "InvalidNumber") (Str.ofString "value") (mVar 1)) xNx)
  (xSeq (xPut (.sl 2) (mL tupleD (mCons (mOfN q1_Loop_without_test) mNil)))
  (xRet (mMake "Loop" m_Loop___init__ 3 [] (mCons (m1 (fldD ["Loop"] "own_names") (mVar 0)) (mCons (m1 (fldD ["Loop"] "own_steps") (mVar 0)) (mCons (mVar 2) mNil)))))))
noncomputable def m_Loop_without_test : List D → FR D := runF 5 b_Loop_without_test
noncomputable def b_Loop_renamed : M Fl :=
  (xSeq (xIf (tNot (tOf (mCall m_is_names 1 [] (mCons (mVar 1) mNil)))) (xRaise (Str.ofString "InvalidName")) xNx)
  (xSeq (xIf (tOf (m2 neD (mL lenD (mCons (mVar 1) mNil)) (mL lenD (mCons (m1 (fldD ["Loop"] "own_names") (mVar 0)) mNil)))) (xRaise (Str.ofString "InvalidOperation")) xNx)
  (xRet (mMake "Loop" m_Loop___init__ 3 [] (mCons (mVar 1) (mCons (m1 (fldD ["Loop"] "own_steps") (mVar 0)) (mCons (m1 (fldD ["Loop"] "own_tests") (mVar 0)) mNil)))))))
noncomputable def m_Loop_renamed : List D → FR D := runF 2 b_Loop_renamed
noncomputable def b__law_other : M Fl :=
  (xSeq (xOwnD 3 (mCopyD (mVar 0)))
  (xSeq (xDSet 3 (mVar 1) (mVar 2))
  (xRet (mVar 3))))
noncomputable def m__law_other : List D → FR D := runF 4 b__law_other
noncomputable def b_Loop___eq__ : M Fl :=
  (xSeq (xIf (tOr (tNot (tOf (m1 (isiOD (Str.ofString "Loop")) (mVar 1)))) (tOf (m2 neD (m1 (fldD ["Loop"] "own_names") (mVar 0)) (m1 (fldD ["Loop"] "own_names") (mVar 1))))) (xRet (mC (.bl false))) xNx)
  (xRet (mAnd (m2 eqD (m1 (fldD ["Loop"] "own_steps") (mVar 0)) (m1 (fldD ["Loop"] "own_steps") (mVar 1))) (m2 eqD (m1 (fldD ["Loop"] "own_tests") (mVar 0)) (m1 (fldD ["Loop"] "own_tests") (mVar 1))))))
noncomputable def m_Loop___eq__ : List D → FR D := runF 2 b_Loop___eq__
noncomputable def e1__law_test_edit : M D :=
  (mL absD (mCons (mVar 8) mNil))
noncomputable def q1__law_test_edit : M (List D) :=
  mLc (mWalk (mVar 3)) [8] (.sl 8) tYesM e1__law_test_edit
noncomputable def l1__law_test_edit : M D :=
  (mMeth [(Str.ofString "Loop", m_Loop_with_test)] (Str.ofString "with_test") 3 (mVar 2) (mCons (mVar 7) (mCons (mVar 3) mNil)))
noncomputable def b__law_test_edit : M Fl :=
  (xSeq (xPut (.tp [(.sl 6), (.sl 7)]) (mL tupD (mCons (mL lenD (mCons (m2 dgetD (mVar 1) (mC (.str (Str.ofString "words")))) mNil)) (mCons (mIo m__law_pick 1 0 (mCons (mL lstD (mCons (mC (.str (Str.ofString "more"))) (mCons (mC (.str (Str.ofString "least"))) mNil))) mNil)) mNil))))
  (xSeq (xPut (.sl 3) (mIo m__law_line 2 0 (mCons (m2 addD (mVar 6) (mC (.int 1))) (mCons (mIo m__law_pick 1 0 (mCons (mL lstD (mCons (mC (.int 3)) (mCons (mC (.int 99)) (mCons (mC (.int 99)) (mCons (mC (.int 140)) mNil))))) mNil)) mNil))))
  (xSeq (xPut (.sl 4) (mCall m__law_other 3 [] (mCons (mVar 1) (mCons (mC (.str (Str.ofString "checks"))) (mCons (m2 addD (m2 dgetD (mVar 1) (mC (.str (Str.ofString "checks")))) (mL tupD (mCons (mL tupD (mCons (mVar 7) (mCons (mVar 3) mNil))) mNil))) mNil)))))
  (xSeq (xIf (tOr (tOf (m2 eqD (mL lenD (mCons (m2 dgetD (mVar 1) (mC (.str (Str.ofString "checks")))) mNil)) (mC (.int 4)))) (tOf (m2 gtD (mL maxLD (mCons (mOfN q1__law_test_edit) mNil)) (mC (.int 99))))) (xPut (.sl 4) (mC (.str (Str.ofString "loop")))) xNx)
  (xSeq (xPut (.sl 5) (mLam m__law_met_error_k13 l1__law_test_edit))
  (xSeq (xIf (tAnd (tNot (tOf (mL isiD (mCons (mVar 4) (mCons (mC (.opq (.ty "str"))) mNil))))) (tAnd (tOf (m1 (isiOD (Str.ofString "Loop")) (mVar 5))) (tOf (m2 (neW "Loop" m_Loop___eq__) (mMeth [(Str.ofString "Loop", m_Loop_without_test)] (Str.ofString "without_test") 2 (mVar 5) (mCons (mL lenD (mCons (m2 dgetD (mVar 1) (mC (.str (Str.ofString "checks")))) mNil)) mNil)) (mVar 2))))) (xRet (mL lstD (mCons (mVar 4) (mCons (mC (.str (Str.ofString "else"))) mNil)))) xNx)
  (xRet (mL lstD (mCons (mVar 4) (mCons (mVar 5) mNil))))))))))
noncomputable def m__law_test_edit : SV → List D → IR := runI 9 b__law_test_edit
noncomputable def l1__law_less_edit : M D :=
  (mMeth [(Str.ofString "Loop", m_Loop_without_test)] (Str.ofString "without_test") 2 (mVar 2) (mCons (mVar 4) mNil))
noncomputable def b__law_less_edit : M Fl :=
  (xSeq (xPut (.sl 3) (mL lenD (mCons (m2 dgetD (mVar 1) (mC (.str (Str.ofString "checks")))) mNil)))
  (xSeq (xPut (.sl 4) (mIo m__law_pick 1 0 (mCons (m2 addD (m2 mulD (m1 listRgD (mVar 3)) (mC (.int 2))) (mL lstD (mCons (mVar 3) (mCons (m1 negD (mC (.int 1))) (mCons (mC .non) (mCons (mC (.bl true)) (mCons (mC (.str (Str.ofString "0"))) mNil))))))) mNil)))
  (xSeq (xIf (tOr (tNot (tOf (mL isiD (mCons (mVar 4) (mCons (mC (.opq (.ty "int"))) mNil))))) (tOr (tOf (mL isiD (mCons (mVar 4) (mCons (mC (.opq (.ty "bool"))) mNil)))) (tOr (tOf (m2 ltD (mVar 4) (mC (.int 0)))) (tOf (m2 geD (mVar 4) (mVar 3)))))) (xPut (.sl 5) (m2 addD (mC (.str (Str.ofString "number "))) (mL Mr.reprX (mCons (mVar 4) mNil)))) (xSeq (xPut (.sl 6) (m2 addD (mSlice (m2 dgetD (mVar 1) (mC (.str (Str.ofString "checks")))) mONone (mOSome (mVar 4))) (mSlice (m2 dgetD (mVar 1) (mC (.str (Str.ofString "checks")))) (mOSome (m2 addD (mVar 4) (mC (.int 1)))) mONone)))
  (xPut (.sl 5) (mIf (tOf (m2 gtD (mVar 3) (mC (.int 1)))) (mCall m__law_other 3 [] (mCons (mVar 1) (mCons (mC (.str (Str.ofString "checks"))) (mCons (mVar 6) mNil)))) (mC (.str (Str.ofString "loop")))))))
  (xRet (mL lstD (mCons (mVar 5) (mCons (mLam m__law_met_error_k13 l1__law_less_edit) mNil)))))))
noncomputable def m__law_less_edit : SV → List D → IR := runI 7 b__law_less_edit
noncomputable def l1__law_step_edit : M D :=
  (mMeth [(Str.ofString "Loop", m_Loop_with_step)] (Str.ofString "with_step") 3 (mVar 2) (mCons (m2 ixD (m2 dgetD (mVar 1) (mC (.str (Str.ofString "words")))) (mVar 8)) (mCons (mVar 4) mNil)))
noncomputable def b__law_step_edit : M Fl :=
  (xSeq (xPut (.sl 3) (mL lenD (mCons (m2 dgetD (mVar 1) (mC (.str (Str.ofString "words")))) mNil)))
  (xSeq (xPut (.tp [(.sl 8), (.sl 9)]) (mL tupD (mCons (mIo m__law_bit 1 0 (mCons (mVar 3) mNil)) (mCons (mIo m__law_pick 1 0 (mCons (mL lstD (mCons (mC (.int 0)) (mCons (mC (.int 1)) (mCons (m1 negD (mC (.int 2))) (mCons (mC (.int 9)) (mCons (m1 negD (mC (.int 9))) (mCons (mC (.int 10)) mNil))))))) mNil)) mNil))))
  (xSeq (xPut (.sl 4) (m2 addD (m2 addD (mIo m__law_line 2 0 (mCons (m2 addD (mVar 8) (mC (.int 1))) (mCons (mC (.int 20)) mNil))) (mL tupD (mCons (mVar 9) mNil))) (m2 mulD (mL tupD (mCons (mC (.int 0)) mNil)) (m2 subD (m2 subD (mVar 3) (mVar 8)) (mC (.int 1))))))
  (xSeq (xIf (tAnd (tOf (m2 ltD (mVar 8) (m2 subD (mVar 3) (mC (.int 1))))) (tOf (m2 eqD (mIo m__law_bit 1 0 (mCons (mC (.int 4)) mNil)) (mC (.int 0))))) (xPut (.sl 4) (m2 addD (mSlice (mVar 4) mONone (mOSome (m1 negD (mC (.int 1))))) (mL tupD (mCons (mC (.int 1)) mNil)))) xNx)
  (xSeq (xPut (.sl 5) (mCall m__law_other 3 [] (mCons (mVar 1) (mCons (mC (.str (Str.ofString "moves"))) (mCons (m2 addD (m2 addD (mSlice (m2 dgetD (mVar 1) (mC (.str (Str.ofString "moves")))) mONone (mOSome (mVar 8))) (mL tupD (mCons (mVar 4) mNil))) (mSlice (m2 dgetD (mVar 1) (mC (.str (Str.ofString "moves")))) (mOSome (m2 addD (mVar 8) (mC (.int 1)))) mONone)) mNil)))))
  (xSeq (xIf (tOr (tOf (m2 gtD (mL absD (mCons (mVar 9) mNil)) (mC (.int 9)))) (tOf (m2 neD (mSlice (mVar 4) (mOSome (m2 addD (mVar 8) (mC (.int 2)))) mONone) (m2 mulD (mL tupD (mCons (mC (.int 0)) mNil)) (m2 subD (m2 subD (mVar 3) (mVar 8)) (mC (.int 1))))))) (xPut (.sl 5) (mC (.str (Str.ofString "loop")))) xNx)
  (xSeq (xPut (.sl 6) (mLam m__law_met_error_k13 l1__law_step_edit))
  (xSeq (xPut (.sl 7) (mIf (tOf (m1 (isiOD (Str.ofString "Loop")) (mVar 6))) (mMeth [(Str.ofString "Loop", m_Loop_with_step)] (Str.ofString "with_step") 3 (mVar 6) (mCons (m2 ixD (m2 dgetD (mVar 1) (mC (.str (Str.ofString "words")))) (mVar 8)) (mCons (m2 ixD (m2 dgetD (mVar 1) (mC (.str (Str.ofString "moves")))) (mVar 8)) mNil))) (mVar 2)))
  (xSeq (xIf (tAnd (tNot (tOf (mL isiD (mCons (mVar 5) (mCons (mC (.opq (.ty "str"))) mNil))))) (tOf (m2 (neW "Loop" m_Loop___eq__) (mVar 7) (mVar 2)))) (xRet (mL lstD (mCons (mVar 5) (mCons (mC (.str (Str.ofString "else"))) mNil)))) xNx)
  (xRet (mL lstD (mCons (mVar 5) (mCons (mVar 6) mNil)))))))))))))
noncomputable def m__law_step_edit : SV → List D → IR := runI 10 b__law_step_edit
noncomputable def e1__law_name_edit : M D :=
  (mVar 9)
noncomputable def q1__law_name_edit : M (List D) :=
  mLc (mWalk (mL lstD (mCons (mC (.str (Str.ofString "u"))) (mCons (mC (.str (Str.ofString "v"))) (mCons (mC (.str (Str.ofString "w"))) (mCons (mC (.str (Str.ofString "s"))) (mCons (mC (.str (Str.ofString "t"))) mNil))))))) [9] (.sl 9) (tOf (m2 (ninO "Loop" m_Loop___contains__) (mVar 9) (m2 dgetD (mVar 1) (mC (.str (Str.ofString "words")))))) e1__law_name_edit
noncomputable def l1__law_name_edit : M D :=
  (mMeth [(Str.ofString "Loop", m_Loop_renamed)] (Str.ofString "renamed") 2 (mVar 2) (mCons (mVar 6) mNil))
noncomputable def b__law_name_edit : M Fl :=
  (xSeq (xPut (.sl 3) (mL lenD (mCons (m2 dgetD (mVar 1) (mC (.str (Str.ofString "words")))) mNil)))
  (xSeq (xPut (.sl 4) (mOfN q1__law_name_edit))
  (xSeq (xPut (.sl 5) (mL tupleD (mCons (mSlice (mIo m__law_dealt 1 0 (mCons (m2 addD (mL listD (mCons (m2 dgetD (mVar 1) (mC (.str (Str.ofString "words")))) mNil)) (mVar 4)) mNil)) mONone (mOSome (mVar 3))) mNil)))
  (xSeq (xPut (.sl 6) (mL lstD (mCons (mVar 5) (mCons (mVar 5) (mCons (mVar 5) (mCons (m2 addD (mVar 5) (mL tupD (mCons (mC (.str (Str.ofString "more"))) mNil))) (mCons (mSlice (mVar 5) mONone (mOSome (m1 negD (mC (.int 1))))) (mCons (m2 addD (mSlice (mVar 5) mONone (mOSome (m1 negD (mC (.int 1))))) (mL tupD (mCons (mC (.str (Str.ofString "A"))) mNil))) (mCons (mL listD (mCons (mVar 5) mNil)) (mCons (m2 mulD (mSlice (mVar 5) mONone (mOSome (mC (.int 1)))) (mC (.int 2))) (mCons (mC .non) mNil)))))))))))
  (xSeq (xPut (.sl 6) (mIo m__law_pick 1 0 (mCons (mVar 6) mNil)))
  (xSeq (xIf (tAnd (tOf (m2 eqD (mVar 6) (mVar 5))) (tOf (mL isiD (mCons (mVar 6) (mCons (mC (.opq (.ty "tuple"))) mNil))))) (xPut (.sl 8) (mCall m__law_other 3 [] (mCons (mVar 1) (mCons (mC (.str (Str.ofString "words"))) (mCons (mVar 5) mNil))))) (xIf (tOr (tNot (tOf (mL isiD (mCons (mVar 6) (mCons (mC (.opq (.ty "tuple"))) mNil))))) (tOr (tOf (m2 eqD (mVar 6) (mL tupD mNil))) (tOr (tOf (m2 gtD (mL lenD (mCons (mVar 6) mNil)) (mC (.int 3)))) (tOr (tOf (m2 neD (m1 lenSetD (mVar 6)) (mL lenD (mCons (mVar 6) mNil)))) (tOf (m2 (inO "Loop" m_Loop___contains__) (mC (.str (Str.ofString "A"))) (mVar 6))))))) (xPut (.sl 8) (mC (.str (Str.ofString "word")))) (xPut (.sl 8) (mC (.str (Str.ofString "operation"))))))
  (xSeq (xPut (.sl 7) (mLam m__law_met_error_k13 l1__law_name_edit))
  (xSeq (xIf (tAnd (tNot (tOf (mL isiD (mCons (mVar 8) (mCons (mC (.opq (.ty "str"))) mNil))))) (tAnd (tOf (m1 (isiOD (Str.ofString "Loop")) (mVar 7))) (tOf (m2 (neW "Loop" m_Loop___eq__) (mMeth [(Str.ofString "Loop", m_Loop_renamed)] (Str.ofString "renamed") 2 (mVar 7) (mCons (m2 dgetD (mVar 1) (mC (.str (Str.ofString "words")))) mNil)) (mVar 2))))) (xRet (mL lstD (mCons (mVar 8) (mCons (mC (.str (Str.ofString "else"))) mNil)))) xNx)
  (xRet (mL lstD (mCons (mVar 8) (mCons (mVar 7) mNil))))))))))))
noncomputable def m__law_name_edit : SV → List D → IR := runI 10 b__law_name_edit
noncomputable def y1__law_right_k11 (ad : Str → V) : M Fl :=
  (xSeq (xDrop (mApp 4 (mL tupD (mCons (mVar 1) (mCons (mVar 3) mNil)))))
  (xSeq (xPut (.sl 5) (mIo m__law_pick 1 0 (mCons (mL lstD (mCons (mC (.opq (ad "_law_test_edit"))) (mCons (mC (.opq (ad "_law_less_edit"))) (mCons (mC (.opq (ad "_law_step_edit"))) (mCons (mC (.opq (ad "_law_step_edit"))) (mCons (mC (.opq (ad "_law_name_edit"))) mNil)))))) mNil)))
  (xSeq (xPut (.tp [(.sl 6), (.sl 7)]) (mIoL [(ad "_law_test_edit", m__law_test_edit), (ad "_law_less_edit", m__law_less_edit), (ad "_law_step_edit", m__law_step_edit), (ad "_law_name_edit", m__law_name_edit)] 2 5 0 (mCons (mVar 3) (mCons (mVar 1) mNil))))
  (xIf (tOf (mL isiD (mCons (mVar 6) (mCons (mC (.opq (.ty "str"))) mNil)))) (xIf (tOf (m2 neD (mVar 7) (mVar 6))) (xRet (mC (.bl false))) xNx) (xIf (tOr (tNot (tOf (m1 (isiOD (Str.ofString "Loop")) (mVar 7)))) (tNot (tOf (mCall m__law_is_loop 2 [] (mCons (mVar 7) (mCons (mVar 6) mNil)))))) (xRet (mC (.bl false))) (xPar 3 1 (mCons (mVar 6) (mCons (mVar 7) mNil))))))))
noncomputable def f1__law_right_k11 (ad : Str → V) : M Fl :=
  xFor (mItL range1D (mCons (mC (.int 12)) mNil)) (.sl 2) (y1__law_right_k11 ad)
noncomputable def e1__law_right_k11 (ad : Str → V) : M D :=
  (mVar 8)
noncomputable def q1__law_right_k11 (ad : Str → V) : M (List D) :=
  mLc (mWalk (mVar 4)) [8] (.sl 8) (tNot (tOf (mCall m__law_is_loop 2 [] (mCons (m2 ixD (mVar 8) (mC (.int 0))) (mCons (m2 ixD (mVar 8) (mC (.int 1))) mNil))))) (e1__law_right_k11 ad)
noncomputable def b__law_right_k11 (ad : Str → V) : M Fl :=
  (xSeq (xParM [3, 4] (mMV (mIo m__law_wide_loop 0 0 mNil) (mMN (mLstN mNil) mMNil)))
  (xSeq (xPut (.sl 1) (mCall m__law_made_loop 1 [] (mCons (mVar 3) mNil)))
  (xSeq (f1__law_right_k11 ad)
  (xRet (m2 eqD (mOfN (q1__law_right_k11 ad)) (mL lstD mNil))))))
noncomputable def m__law_right_k11 (ad : Str → V) : SV → List D → IR := runI 9 (b__law_right_k11 ad)
noncomputable def y1_law_k11 (ad : Str → V) : M Fl :=
  (xIf (tNot (tOf (mIoT (m__law_right_k11 ad) (mCallN m__law_bowl 2 (mCons (mVar 0) (mCons (mVar 1) mNil)))))) (xRet (mC (.bl false))) xNx)
noncomputable def f1_law_k11 (ad : Str → V) : M Fl :=
  xFor (mItL range1D (mCons (mL max2D (mCons (mC (.int 1)) (mCons (mL min2D (mCons (mC (.int 6)) (mCons (mL lenD (mCons (mVar 0) mNil)) mNil))) mNil))) mNil)) (.sl 1) (y1_law_k11 ad)
noncomputable def b_law_k11 (ad : Str → V) : M Fl :=
  (xSeq (f1_law_k11 ad)
  (xRet (mC (.bl true))))
noncomputable def m_law_k11 (ad : Str → V) : List D → FR D := runF 2 (b_law_k11 ad)
end Pm
namespace K11
open PySem PySem.Spec PyProof.Rows L2 Mr Pm
/-- what the text's top has left -/
structure Tx (P : Program) (w : World) (K : PySem.W.Frag) (mg : Str → Option Value) where
  a5 : Addr
  fd5 : FuncData
  f5 : FunD K "is_name" "is_name" (defArgs (topS 5)) (defBody (topS 5)) (defScope (topS 5)) [] [] a5 fd5
  g5 : mg "is_name" = some (.ref a5)
  a6 : Addr
  fd6 : FuncData
  f6 : FunD K "is_names" "is_names" (defArgs (topS 6)) (defBody (topS 6)) (defScope (topS 6)) [] [] a6 fd6
  g6 : mg "is_names" = some (.ref a6)
  a4 : Addr
  fd4 : FuncData
  f4 : FunD K "is_integer" "is_integer" (defArgs (topS 4)) (defBody (topS 4)) (defScope (topS 4)) [] [] a4 fd4
  g4 : mg "is_integer" = some (.ref a4)
  a25 : Addr
  fd25 : FuncData
  f25 : FunD K "is_form" "is_form" (defArgs (topS 25)) (defBody (topS 25)) (defScope (topS 25)) [] [] a25 fd25
  g25 : mg "is_form" = some (.ref a25)
  a26 : Addr
  fd26 : FuncData
  f26 : FunD K "is_small_form" "is_small_form" (defArgs (topS 26)) (defBody (topS 26)) (defScope (topS 26)) [] [] a26 fd26
  g26 : mg "is_small_form" = some (.ref a26)
  a29 : Addr
  fd29 : FuncData
  f29 : FunD K "is_step" "is_step" (defArgs (topS 29)) (defBody (topS 29)) (defScope (topS 29)) [] [] a29 fd29
  g29 : mg "is_step" = some (.ref a29)
  a30 : Addr
  fd30 : FuncData
  f30 : FunD K "are_steps" "are_steps" (defArgs (topS 30)) (defBody (topS 30)) (defScope (topS 30)) [] [] a30 fd30
  g30 : mg "are_steps" = some (.ref a30)
  a27 : Addr
  fd27 : FuncData
  f27 : FunD K "is_sign" "is_sign" (defArgs (topS 27)) (defBody (topS 27)) (defScope (topS 27)) [] [] a27 fd27
  g27 : mg "is_sign" = some (.ref a27)
  a28 : Addr
  fd28 : FuncData
  f28 : FunD K "is_test" "is_test" (defArgs (topS 28)) (defBody (topS 28)) (defScope (topS 28)) [] [] a28 fd28
  g28 : mg "is_test" = some (.ref a28)
  a31 : Addr
  fd31 : FuncData
  f31 : FunD K "are_tests" "are_tests" (defArgs (topS 31)) (defBody (topS 31)) (defScope (topS 31)) [] [] a31 fd31
  g31 : mg "are_tests" = some (.ref a31)
  a32_0 : Addr
  fd32_0 : FuncData
  f32_0 : FunD K "__init__" "Loop.__init__" (defArgs (inCls (topS 32) 0)) (defBody (inCls (topS 32) 0)) (defScope (inCls (topS 32) 0)) [] [] a32_0 fd32_0
  k_Loop : L2.Mk K (He.ga K "Loop") a32_0
  a43 : Addr
  fd43 : FuncData
  f43 : FunD K "_law_made_loop" "_law_made_loop" (defArgs (topS 43)) (defBody (topS 43)) (defScope (topS 43)) [] [] a43 fd43
  g43 : mg "_law_made_loop" = some (.ref a43)
  a38 : Addr
  fd38 : FuncData
  f38 : FunD K "_law_bit" "_law_bit" (defArgs (topS 38)) (defBody (topS 38)) (defScope (topS 38)) [] [] a38 fd38
  g38 : mg "_law_bit" = some (.ref a38)
  a39 : Addr
  fd39 : FuncData
  f39 : FunD K "_law_pick" "_law_pick" (defArgs (topS 39)) (defBody (topS 39)) (defScope (topS 39)) [] [] a39 fd39
  g39 : mg "_law_pick" = some (.ref a39)
  a40 : Addr
  fd40 : FuncData
  f40 : FunD K "_law_dealt" "_law_dealt" (defArgs (topS 40)) (defBody (topS 40)) (defScope (topS 40)) [] [] a40 fd40
  g40 : mg "_law_dealt" = some (.ref a40)
  a41 : Addr
  fd41 : FuncData
  f41 : FunD K "_law_small" "_law_small" (defArgs (topS 41)) (defBody (topS 41)) (defScope (topS 41)) [] [] a41 fd41
  g41 : mg "_law_small" = some (.ref a41)
  a42 : Addr
  fd42 : FuncData
  f42 : FunD K "_law_line" "_law_line" (defArgs (topS 42)) (defBody (topS 42)) (defScope (topS 42)) [] [] a42 fd42
  g42 : mg "_law_line" = some (.ref a42)
  a46 : Addr
  fd46 : FuncData
  f46 : FunD K "_law_wide_loop" "_law_wide_loop" (defArgs (topS 46)) (defBody (topS 46)) (defScope (topS 46)) [] [] a46 fd46
  g46 : mg "_law_wide_loop" = some (.ref a46)
  a47 : Addr
  fd47 : FuncData
  f47 : FunD K "_law_other" "_law_other" (defArgs (topS 47)) (defBody (topS 47)) (defScope (topS 47)) [] [] a47 fd47
  g47 : mg "_law_other" = some (.ref a47)
  a45 : Addr
  fd45 : FuncData
  f45 : FunD K "_law_met_error" "_law_met_error" (defArgs (topS 45)) (defBody (topS 45)) (defScope (topS 45)) [] [] a45 fd45
  g45 : mg "_law_met_error" = some (.ref a45)
  a32_15 : Addr
  fd32_15 : FuncData
  f32_15 : FunD K "__eq__" "Loop.__eq__" (defArgs (inCls (topS 32) 15)) (defBody (inCls (topS 32) 15)) (defScope (inCls (topS 32) 15)) [] [] a32_15 fd32_15
  m_Loop___eq__ : Meth K (He.ga K "Loop") "__eq__" a32_15
  a33 : Addr
  fd33 : FuncData
  f33 : FunD K "require_sign" "require_sign" (defArgs (topS 33)) (defBody (topS 33)) (defScope (topS 33)) [] [] a33 fd33
  g33 : mg "require_sign" = some (.ref a33)
  a34 : Addr
  fd34 : FuncData
  f34 : FunD K "require_form" "require_form" (defArgs (topS 34)) (defBody (topS 34)) (defScope (topS 34)) [] [] a34 fd34
  g34 : mg "require_form" = some (.ref a34)
  a32_7 : Addr
  fd32_7 : FuncData
  f32_7 : FunD K "with_test" "Loop.with_test" (defArgs (inCls (topS 32) 7)) (defBody (inCls (topS 32) 7)) (defScope (inCls (topS 32) 7)) [] [] a32_7 fd32_7
  m_Loop_with_test : Meth K (He.ga K "Loop") "with_test" a32_7
  a32_8 : Addr
  fd32_8 : FuncData
  f32_8 : FunD K "without_test" "Loop.without_test" (defArgs (inCls (topS 32) 8)) (defBody (inCls (topS 32) 8)) (defScope (inCls (topS 32) 8)) [] [] a32_8 fd32_8
  m_Loop_without_test : Meth K (He.ga K "Loop") "without_test" a32_8
  a48 : Addr
  fd48 : FuncData
  f48 : FunD K "_law_test_edit" "_law_test_edit" (defArgs (topS 48)) (defBody (topS 48)) (defScope (topS 48)) [] [] a48 fd48
  g48 : mg "_law_test_edit" = some (.ref a48)
  a49 : Addr
  fd49 : FuncData
  f49 : FunD K "_law_less_edit" "_law_less_edit" (defArgs (topS 49)) (defBody (topS 49)) (defScope (topS 49)) [] [] a49 fd49
  g49 : mg "_law_less_edit" = some (.ref a49)
  a35 : Addr
  fd35 : FuncData
  f35 : FunD K "require_name" "require_name" (defArgs (topS 35)) (defBody (topS 35)) (defScope (topS 35)) [] [] a35 fd35
  g35 : mg "require_name" = some (.ref a35)
  a32_9 : Addr
  fd32_9 : FuncData
  f32_9 : FunD K "with_step" "Loop.with_step" (defArgs (inCls (topS 32) 9)) (defBody (inCls (topS 32) 9)) (defScope (inCls (topS 32) 9)) [] [] a32_9 fd32_9
  m_Loop_with_step : Meth K (He.ga K "Loop") "with_step" a32_9
  a50 : Addr
  fd50 : FuncData
  f50 : FunD K "_law_step_edit" "_law_step_edit" (defArgs (topS 50)) (defBody (topS 50)) (defScope (topS 50)) [] [] a50 fd50
  g50 : mg "_law_step_edit" = some (.ref a50)
  a32_12 : Addr
  fd32_12 : FuncData
  f32_12 : FunD K "__contains__" "Loop.__contains__" (defArgs (inCls (topS 32) 12)) (defBody (inCls (topS 32) 12)) (defScope (inCls (topS 32) 12)) [] [] a32_12 fd32_12
  m_Loop___contains__ : Meth K (He.ga K "Loop") "__contains__" a32_12
  a32_10 : Addr
  fd32_10 : FuncData
  f32_10 : FunD K "renamed" "Loop.renamed" (defArgs (inCls (topS 32) 10)) (defBody (inCls (topS 32) 10)) (defScope (inCls (topS 32) 10)) [] [] a32_10 fd32_10
  m_Loop_renamed : Meth K (He.ga K "Loop") "renamed" a32_10
  a51 : Addr
  fd51 : FuncData
  f51 : FunD K "_law_name_edit" "_law_name_edit" (defArgs (topS 51)) (defBody (topS 51)) (defScope (topS 51)) [] [] a51 fd51
  g51 : mg "_law_name_edit" = some (.ref a51)
  a32_5 : Addr
  fd32_5 : FuncData
  f32_5 : FunD K "width" "Loop.width" (defArgs (inCls (topS 32) 5)) (defBody (inCls (topS 32) 5)) (defScope (inCls (topS 32) 5)) [] [] a32_5 fd32_5
  p_Loop_width : ∃ p, PropOf K (He.ga K "Loop") "width" p a32_5
  a32_4 : Addr
  fd32_4 : FuncData
  f32_4 : FunD K "multipliers" "Loop.multipliers" (defArgs (inCls (topS 32) 4)) (defBody (inCls (topS 32) 4)) (defScope (inCls (topS 32) 4)) [] [] a32_4 fd32_4
  p_Loop_multipliers : ∃ p, PropOf K (He.ga K "Loop") "multipliers" p a32_4
  a32_14 : Addr
  fd32_14 : FuncData
  f32_14 : FunD K "__len__" "Loop.__len__" (defArgs (inCls (topS 32) 14)) (defBody (inCls (topS 32) 14)) (defScope (inCls (topS 32) 14)) [] [] a32_14 fd32_14
  m_Loop___len__ : Meth K (He.ga K "Loop") "__len__" a32_14
  a32_6 : Addr
  fd32_6 : FuncData
  f32_6 : FunD K "matrix" "Loop.matrix" (defArgs (inCls (topS 32) 6)) (defBody (inCls (topS 32) 6)) (defScope (inCls (topS 32) 6)) [] [] a32_6 fd32_6
  p_Loop_matrix : ∃ p, PropOf K (He.ga K "Loop") "matrix" p a32_6
  a32_16 : Addr
  fd32_16 : FuncData
  f32_16 : FunD K "__str__" "Loop.__str__" (defArgs (inCls (topS 32) 16)) (defBody (inCls (topS 32) 16)) (defScope (inCls (topS 32) 16)) [] [] a32_16 fd32_16
  m_Loop___str__ : Meth K (He.ga K "Loop") "__str__" a32_16
  a32_1 : Addr
  fd32_1 : FuncData
  f32_1 : FunD K "names" "Loop.names" (defArgs (inCls (topS 32) 1)) (defBody (inCls (topS 32) 1)) (defScope (inCls (topS 32) 1)) [] [] a32_1 fd32_1
  p_Loop_names : ∃ p, PropOf K (He.ga K "Loop") "names" p a32_1
  a32_2 : Addr
  fd32_2 : FuncData
  f32_2 : FunD K "steps" "Loop.steps" (defArgs (inCls (topS 32) 2)) (defBody (inCls (topS 32) 2)) (defScope (inCls (topS 32) 2)) [] [] a32_2 fd32_2
  p_Loop_steps : ∃ p, PropOf K (He.ga K "Loop") "steps" p a32_2
  a32_3 : Addr
  fd32_3 : FuncData
  f32_3 : FunD K "tests" "Loop.tests" (defArgs (inCls (topS 32) 3)) (defBody (inCls (topS 32) 3)) (defScope (inCls (topS 32) 3)) [] [] a32_3 fd32_3
  p_Loop_tests : ∃ p, PropOf K (He.ga K "Loop") "tests" p a32_3
  a32_11 : Addr
  fd32_11 : FuncData
  f32_11 : FunD K "__getitem__" "Loop.__getitem__" (defArgs (inCls (topS 32) 11)) (defBody (inCls (topS 32) 11)) (defScope (inCls (topS 32) 11)) [] [] a32_11 fd32_11
  m_Loop___getitem__ : Meth K (He.ga K "Loop") "__getitem__" a32_11
  a44 : Addr
  fd44 : FuncData
  f44 : FunD K "_law_is_loop" "_law_is_loop" (defArgs (topS 44)) (defBody (topS 44)) (defScope (topS 44)) [] [] a44 fd44
  g44 : mg "_law_is_loop" = some (.ref a44)
  a52 : Addr
  fd52 : FuncData
  f52 : FunD K "_law_right" "_law_right" (defArgs (topS 52)) (defBody (topS 52)) (defScope (topS 52)) [] [] a52 fd52
  g52 : mg "_law_right" = some (.ref a52)
  a37 : Addr
  fd37 : FuncData
  f37 : FunD K "_law_bowl" "_law_bowl" (defArgs (topS 37)) (defBody (topS 37)) (defScope (topS 37)) [] [] a37 fd37
  g37 : mg "_law_bowl" = some (.ref a37)
  a53 : Addr
  fd53 : FuncData
  f53 : FunD K "law" "law" (defArgs (topS 53)) (defBody (topS 53)) (defScope (topS 53)) [] [] a53 fd53
  g53 : mg "law" = some (.ref a53)
  o_InvalidForm : mg "InvalidForm" = some (.ref (He.ga K "InvalidForm"))
  o_InvalidLoop : mg "InvalidLoop" = some (.ref (He.ga K "InvalidLoop"))
  o_InvalidName : mg "InvalidName" = some (.ref (He.ga K "InvalidName"))
  o_InvalidNumber : mg "InvalidNumber" = some (.ref (He.ga K "InvalidNumber"))
  o_InvalidOperation : mg "InvalidOperation" = some (.ref (He.ga K "InvalidOperation"))
  o_InvalidStart : mg "InvalidStart" = some (.ref (He.ga K "InvalidStart"))
  o_Loop : mg "Loop" = some (.ref (He.ga K "Loop"))
  o_TooMany : mg "TooMany" = some (.ref (He.ga K "TooMany"))
  o_UnknownName : mg "UnknownName" = some (.ref (He.ga K "UnknownName"))
  cl_Loop : Cls K (He.ga K "Loop")
  i_Loop : IsiF K "Loop"
  q_Loop : EqF K "Loop"
  e_InvalidForm : ExcF K "InvalidForm"
  e_InvalidLoop : ExcF K "InvalidLoop"
  e_InvalidName : ExcF K "InvalidName"
  e_InvalidOperation : ExcF K "InvalidOperation"
  r_InvalidNumber : ErrI P K (He.ga K "InvalidNumber") (meA "InvalidNumber" "__init__" K) "value" "value" "the number is not as expected" "IndexError" "IndexError.__new__" "IndexError.__init__" bmIndex
  r_UnknownName : ErrI P K (He.ga K "UnknownName") (meA "UnknownName" "__init__" K) "name" "name" "there is no such name" "KeyError" "LookupError.__new__" "KeyError.__init__" bmKey
  x_InvalidForm_InvalidForm : PySem.W.exmOne K (.ref (He.ga K "InvalidForm")) (.ref (He.ga K "InvalidForm")) = some true
  x_InvalidForm_InvalidLoop : PySem.W.exmOne K (.ref (He.ga K "InvalidForm")) (.ref (He.ga K "InvalidLoop")) = some false
  x_InvalidForm_InvalidName : PySem.W.exmOne K (.ref (He.ga K "InvalidForm")) (.ref (He.ga K "InvalidName")) = some false
  x_InvalidForm_InvalidNumber : PySem.W.exmOne K (.ref (He.ga K "InvalidForm")) (.ref (He.ga K "InvalidNumber")) = some false
  x_InvalidForm_InvalidOperation : PySem.W.exmOne K (.ref (He.ga K "InvalidForm")) (.ref (He.ga K "InvalidOperation")) = some false
  x_InvalidForm_InvalidStart : PySem.W.exmOne K (.ref (He.ga K "InvalidForm")) (.ref (He.ga K "InvalidStart")) = some false
  x_InvalidForm_TooMany : PySem.W.exmOne K (.ref (He.ga K "InvalidForm")) (.ref (He.ga K "TooMany")) = some false
  x_InvalidForm_UnknownName : PySem.W.exmOne K (.ref (He.ga K "InvalidForm")) (.ref (He.ga K "UnknownName")) = some false
  x_InvalidLoop_InvalidForm : PySem.W.exmOne K (.ref (He.ga K "InvalidLoop")) (.ref (He.ga K "InvalidForm")) = some false
  x_InvalidLoop_InvalidLoop : PySem.W.exmOne K (.ref (He.ga K "InvalidLoop")) (.ref (He.ga K "InvalidLoop")) = some true
  x_InvalidLoop_InvalidName : PySem.W.exmOne K (.ref (He.ga K "InvalidLoop")) (.ref (He.ga K "InvalidName")) = some false
  x_InvalidLoop_InvalidNumber : PySem.W.exmOne K (.ref (He.ga K "InvalidLoop")) (.ref (He.ga K "InvalidNumber")) = some false
  x_InvalidLoop_InvalidOperation : PySem.W.exmOne K (.ref (He.ga K "InvalidLoop")) (.ref (He.ga K "InvalidOperation")) = some false
  x_InvalidLoop_InvalidStart : PySem.W.exmOne K (.ref (He.ga K "InvalidLoop")) (.ref (He.ga K "InvalidStart")) = some false
  x_InvalidLoop_TooMany : PySem.W.exmOne K (.ref (He.ga K "InvalidLoop")) (.ref (He.ga K "TooMany")) = some false
  x_InvalidLoop_UnknownName : PySem.W.exmOne K (.ref (He.ga K "InvalidLoop")) (.ref (He.ga K "UnknownName")) = some false
  x_InvalidName_InvalidForm : PySem.W.exmOne K (.ref (He.ga K "InvalidName")) (.ref (He.ga K "InvalidForm")) = some false
  x_InvalidName_InvalidLoop : PySem.W.exmOne K (.ref (He.ga K "InvalidName")) (.ref (He.ga K "InvalidLoop")) = some false
  x_InvalidName_InvalidName : PySem.W.exmOne K (.ref (He.ga K "InvalidName")) (.ref (He.ga K "InvalidName")) = some true
  x_InvalidName_InvalidNumber : PySem.W.exmOne K (.ref (He.ga K "InvalidName")) (.ref (He.ga K "InvalidNumber")) = some false
  x_InvalidName_InvalidOperation : PySem.W.exmOne K (.ref (He.ga K "InvalidName")) (.ref (He.ga K "InvalidOperation")) = some false
  x_InvalidName_InvalidStart : PySem.W.exmOne K (.ref (He.ga K "InvalidName")) (.ref (He.ga K "InvalidStart")) = some false
  x_InvalidName_TooMany : PySem.W.exmOne K (.ref (He.ga K "InvalidName")) (.ref (He.ga K "TooMany")) = some false
  x_InvalidName_UnknownName : PySem.W.exmOne K (.ref (He.ga K "InvalidName")) (.ref (He.ga K "UnknownName")) = some false
  x_InvalidNumber_InvalidForm : PySem.W.exmOne K (.ref (He.ga K "InvalidNumber")) (.ref (He.ga K "InvalidForm")) = some false
  x_InvalidNumber_InvalidLoop : PySem.W.exmOne K (.ref (He.ga K "InvalidNumber")) (.ref (He.ga K "InvalidLoop")) = some false
  x_InvalidNumber_InvalidName : PySem.W.exmOne K (.ref (He.ga K "InvalidNumber")) (.ref (He.ga K "InvalidName")) = some false
  x_InvalidNumber_InvalidNumber : PySem.W.exmOne K (.ref (He.ga K "InvalidNumber")) (.ref (He.ga K "InvalidNumber")) = some true
  x_InvalidNumber_InvalidOperation : PySem.W.exmOne K (.ref (He.ga K "InvalidNumber")) (.ref (He.ga K "InvalidOperation")) = some false
  x_InvalidNumber_InvalidStart : PySem.W.exmOne K (.ref (He.ga K "InvalidNumber")) (.ref (He.ga K "InvalidStart")) = some false
  x_InvalidNumber_TooMany : PySem.W.exmOne K (.ref (He.ga K "InvalidNumber")) (.ref (He.ga K "TooMany")) = some false
  x_InvalidNumber_UnknownName : PySem.W.exmOne K (.ref (He.ga K "InvalidNumber")) (.ref (He.ga K "UnknownName")) = some false
  x_InvalidOperation_InvalidForm : PySem.W.exmOne K (.ref (He.ga K "InvalidOperation")) (.ref (He.ga K "InvalidForm")) = some false
  x_InvalidOperation_InvalidLoop : PySem.W.exmOne K (.ref (He.ga K "InvalidOperation")) (.ref (He.ga K "InvalidLoop")) = some false
  x_InvalidOperation_InvalidName : PySem.W.exmOne K (.ref (He.ga K "InvalidOperation")) (.ref (He.ga K "InvalidName")) = some false
  x_InvalidOperation_InvalidNumber : PySem.W.exmOne K (.ref (He.ga K "InvalidOperation")) (.ref (He.ga K "InvalidNumber")) = some false
  x_InvalidOperation_InvalidOperation : PySem.W.exmOne K (.ref (He.ga K "InvalidOperation")) (.ref (He.ga K "InvalidOperation")) = some true
  x_InvalidOperation_InvalidStart : PySem.W.exmOne K (.ref (He.ga K "InvalidOperation")) (.ref (He.ga K "InvalidStart")) = some false
  x_InvalidOperation_TooMany : PySem.W.exmOne K (.ref (He.ga K "InvalidOperation")) (.ref (He.ga K "TooMany")) = some false
  x_InvalidOperation_UnknownName : PySem.W.exmOne K (.ref (He.ga K "InvalidOperation")) (.ref (He.ga K "UnknownName")) = some false
  x_UnknownName_InvalidForm : PySem.W.exmOne K (.ref (He.ga K "UnknownName")) (.ref (He.ga K "InvalidForm")) = some false
  x_UnknownName_InvalidLoop : PySem.W.exmOne K (.ref (He.ga K "UnknownName")) (.ref (He.ga K "InvalidLoop")) = some false
  x_UnknownName_InvalidName : PySem.W.exmOne K (.ref (He.ga K "UnknownName")) (.ref (He.ga K "InvalidName")) = some false
  x_UnknownName_InvalidNumber : PySem.W.exmOne K (.ref (He.ga K "UnknownName")) (.ref (He.ga K "InvalidNumber")) = some false
  x_UnknownName_InvalidOperation : PySem.W.exmOne K (.ref (He.ga K "UnknownName")) (.ref (He.ga K "InvalidOperation")) = some false
  x_UnknownName_InvalidStart : PySem.W.exmOne K (.ref (He.ga K "UnknownName")) (.ref (He.ga K "InvalidStart")) = some false
  x_UnknownName_TooMany : PySem.W.exmOne K (.ref (He.ga K "UnknownName")) (.ref (He.ga K "TooMany")) = some false
  x_UnknownName_UnknownName : PySem.W.exmOne K (.ref (He.ga K "UnknownName")) (.ref (He.ga K "UnknownName")) = some true
  xf_InvalidNumber : XfC K (He.ga K "InvalidNumber")
  xf_TooMany : XfC K (He.ga K "TooMany")
  xf_UnknownName : XfC K (He.ga K "UnknownName")
  xn_InvalidNumber_value : PySem.W.findIn K (.ref (He.ga K "InvalidNumber")) "value" = some none
  xn_TooMany_limit : PySem.W.findIn K (.ref (He.ga K "TooMany")) "limit" = some none
  xn_UnknownName_name : PySem.W.findIn K (.ref (He.ga K "UnknownName")) "name" = some none
  t_SIGNS : mg "SIGNS" = some (.ref (He.ga K "SIGNS"))
  r_SIGNS : ∀ F : Hp, Rep K F (.ref (He.ga K "SIGNS")) (.tup c_SIGNS)
  sysK : (K.lookup sysModules).isSome = true
  l_48 : LamF K mg a48 "_law_test_edit.<locals>.<lambda>"
  l_49 : LamF K mg a49 "_law_less_edit.<locals>.<lambda>"
  l_50 : LamF K mg a50 "_law_step_edit.<locals>.<lambda>"
  l_51 : LamF K mg a51 "_law_name_edit.<locals>.<lambda>"
  f_Loop_own_by_name : ClsF K "Loop" ["own_by_name"]
  f_Loop_own_matrix : ClsF K "Loop" ["own_matrix"]
  f_Loop_own_names : ClsF K "Loop" ["own_names"]
  f_Loop_own_steps : ClsF K "Loop" ["own_steps"]
  f_Loop_own_tests : ClsF K "Loop" ["own_tests"]
  f_Loop_own_width : ClsF K "Loop" ["own_width"]
  t3 : Tok
  c_GREATEST : mg "GREATEST" = some (.int c_GREATEST t3)
  t1 : Tok
  c_MAX_LETTERS : mg "MAX_LETTERS" = some (.int c_MAX_LETTERS t1)
  t19 : Tok
  c_MAX_MULTIPLIER : mg "MAX_MULTIPLIER" = some (.int c_MAX_MULTIPLIER t19)
  t20 : Tok
  c_MAX_STEP : mg "MAX_STEP" = some (.int c_MAX_STEP t20)
  t18 : Tok
  c_MAX_TESTS : mg "MAX_TESTS" = some (.int c_MAX_TESTS t18)
  t21 : Tok
  c_MAX_TEST_NUMBER : mg "MAX_TEST_NUMBER" = some (.int c_MAX_TEST_NUMBER t21)
  t2 : Tok
  c_MOST_NAMES : mg "MOST_NAMES" = some (.int c_MOST_NAMES t2)
  n_abs : mg "abs" = none
  n_all : mg "all" = none
  n_bool : mg "bool" = none
  n_dict : mg "dict" = none
  n_enumerate : mg "enumerate" = none
  n_int : mg "int" = none
  n_isinstance : mg "isinstance" = none
  n_len : mg "len" = none
  n_list : mg "list" = none
  n_max : mg "max" = none
  n_min : mg "min" = none
  n_range : mg "range" = none
  n_repr : mg "repr" = none
  n_set : mg "set" = none
  n_str : mg "str" = none
  n_super : mg "super" = none
  n_tuple : mg "tuple" = none
  n_zip : mg "zip" = none
section
variable {P : Program} {w : World} {K : PySem.W.Frag} {mg : Str → Option Value} {base : Heap}
abbrev s_is_name : Stmt := topS 5
theorem sc_is_name : FnScope ["value", "letter"] ["value"] (defScope s_is_name) := ⟨rfl, rfl, rfl, by decide +kernel, rfl, by decide +kernel, by decide +kernel⟩
theorem bd_is_name (T : Tx P w K mg) : Binds K T.fd5 ["value"] [] := T.f5.bindsN fun _ _ _ _ _ _ us hl => match us, hl with | [_], _ => rfl
theorem ok_is_name (T : Tx P w K mg) : FnG P w K mg base 1 T.a5 T.fd5 ["value"] (PSp K 1 m_is_name) := by
  refine fn_val (N := ["value", "letter"]) T.f5 sc_is_name rfl fun cdv hcd A outer s H E hr => ?_
  have tk := takes_of (X := cxOf (L2.CX P w) P w K mg base ["value", "letter"] "is_name" (defScope s_is_name) T.a5 cdv A outer s H E) (E := E) rfl rfl rfl rfl
  have hp := passes_of (X := cxOf (L2.CX P w) P w K mg base ["value", "letter"] "is_name" (defScope s_is_name) T.a5 cdv A outer s H E) rfl
  have hu := hr.units
  exact (AB.cons (AS.if_ (AW.pt (AW.or (AT.not (AT.val (AE.blt CA.isi (by rfl) T.n_isinstance (by decide +kernel) (AA.cons (AE.var (pv 0)) (AA.cons (AE.ty (T := "str") (by rfl) T.n_str (by decide +kernel)) AA.nil))))) (AW.or1 (AT.not (AT.chain OA.le OA.le AE.int (AE.blt CA.len (by rfl) T.n_len PySem.boot_len (AA.cons (AE.var (pv 0)) AA.nil)) (AE.gint rfl T.c_MAX_LETTERS)))))) (AB.one (AS.ret AE.bl)) AB.nil)
    (AB.one (AS.ret (AE.blt (CA.all rfl) (by rfl) T.n_all (by decide +kernel) (AA.cons (AE.ofN (AN.lc (own := [("letter", 1)]) (t := (.sl 1)) rfl sc_is_name.nd (AI.any (AE.var (pv 0))) (blkOk_by (N := ["value", "letter"]) (sc := defScope s_is_name) (by decide +kernel)) (by decide) (fun _ _ _ _ _ => (AG.name sc_is_name.nd rfl (by first | exact .inl rfl | exact .inr rfl))) (fun _ _ _ _ _ => ATs.nil) (fun _ _ _ _ _ => (AE.chain OA.le OA.le AE.str (AE.var (pv 1)) AE.str)))) AA.nil)))))
abbrev s_is_names : Stmt := topS 6
theorem sc_is_names : FnScope ["value", "name"] ["value"] (defScope s_is_names) := ⟨rfl, rfl, rfl, by decide +kernel, rfl, by decide +kernel, by decide +kernel⟩
theorem bd_is_names (T : Tx P w K mg) : Binds K T.fd6 ["value"] [] := T.f6.bindsN fun _ _ _ _ _ _ us hl => match us, hl with | [_], _ => rfl
theorem ok_is_names (T : Tx P w K mg) : FnG P w K mg base 2 T.a6 T.fd6 ["value"] (PSp K 1 m_is_names) := by
  refine fn_val (N := ["value", "name"]) T.f6 sc_is_names rfl fun cdv hcd A outer s H E hr => ?_
  have tk := takes_of (X := cxOf (L2.CX P w) P w K mg base ["value", "name"] "is_names" (defScope s_is_names) T.a6 cdv A outer s H E) (E := E) rfl rfl rfl rfl
  have hp := passes_of (X := cxOf (L2.CX P w) P w K mg base ["value", "name"] "is_names" (defScope s_is_names) T.a6 cdv A outer s H E) rfl
  have hu := hr.units
  exact (AB.cons (AS.if_ (AW.pt (AW.or (AT.not (AT.val (AE.blt CA.isi (by rfl) T.n_isinstance (by decide +kernel) (AA.cons (AE.var (pv 0)) (AA.cons (AE.ty (T := "tuple") (by rfl) T.n_tuple (by decide +kernel)) AA.nil))))) (AW.or1 (AT.not (AT.chain OA.le OA.le AE.int (AE.blt CA.len (by rfl) T.n_len PySem.boot_len (AA.cons (AE.var (pv 0)) AA.nil)) (AE.gint rfl T.c_MOST_NAMES)))))) (AB.one (AS.ret AE.bl)) AB.nil)
    (AB.one (AS.ret (AE.and (AE.blt (CA.all rfl) (by rfl) T.n_all (by decide +kernel) (AA.cons (AE.ofN (AN.lc (own := [("name", 1)]) (t := (.sl 1)) rfl sc_is_names.nd (AI.any (AE.var (pv 0))) (blkOk_by (N := ["value", "name"]) (sc := defScope s_is_names) (by decide +kernel)) (by decide) (fun _ _ _ _ _ => (AG.name sc_is_names.nd rfl (by first | exact .inl rfl | exact .inr rfl))) (fun _ _ _ _ _ => ATs.nil) (fun _ _ _ _ _ => (AE.call (ok_is_name T) (hr.mono (by decide)) (by rfl) T.g5 T.f5.kp (bd_is_name T) .nil (fun _ _ => .nil) takes0 (AA.cons (AE.var (pv 1)) AA.nil))))) AA.nil)) (AE.one (AE.cmp (OA.eq hu) (AE.lenS rfl (by rfl) T.n_len (by rfl) T.n_set (AE.var (pv 0))) (AE.blt CA.len (by rfl) T.n_len PySem.boot_len (AA.cons (AE.var (pv 0)) AA.nil)) (nomark _)))))))
abbrev s_is_integer : Stmt := topS 4
theorem sc_is_integer : FnScope ["value"] ["value"] (defScope s_is_integer) := ⟨rfl, rfl, rfl, by decide +kernel, rfl, by decide +kernel, by decide +kernel⟩
theorem bd_is_integer (T : Tx P w K mg) : Binds K T.fd4 ["value"] [] := T.f4.bindsN fun _ _ _ _ _ _ us hl => match us, hl with | [_], _ => rfl
theorem ok_is_integer (T : Tx P w K mg) : FnG P w K mg base 1 T.a4 T.fd4 ["value"] (PSp K 1 m_is_integer) := by
  refine fn_val (N := ["value"]) T.f4 sc_is_integer rfl fun cdv hcd A outer s H E hr => ?_
  have tk := takes_of (X := cxOf (L2.CX P w) P w K mg base ["value"] "is_integer" (defScope s_is_integer) T.a4 cdv A outer s H E) (E := E) rfl rfl rfl rfl
  have hp := passes_of (X := cxOf (L2.CX P w) P w K mg base ["value"] "is_integer" (defScope s_is_integer) T.a4 cdv A outer s H E) rfl
  have hu := hr.units
  exact (AB.one (AS.ret (AE.and (AE.blt CA.isi (by rfl) T.n_isinstance (by decide +kernel) (AA.cons (AE.var (pv 0)) (AA.cons (AE.ty (T := "int") (by rfl) T.n_int (by decide +kernel)) AA.nil))) (AE.and (AE.not (AE.blt CA.isi (by rfl) T.n_isinstance (by decide +kernel) (AA.cons (AE.var (pv 0)) (AA.cons (AE.ty (T := "bool") (by rfl) T.n_bool (by decide +kernel)) AA.nil)))) (AE.one (AE.chain OA.le OA.le (AE.un UA.neg (AE.gint rfl T.c_GREATEST)) (AE.var (pv 0)) (AE.gint rfl T.c_GREATEST)))))))
abbrev s_is_form : Stmt := topS 25
theorem sc_is_form : FnScope ["value", "width", "number"] ["value", "width"] (defScope s_is_form) := ⟨rfl, rfl, rfl, by decide +kernel, rfl, by decide +kernel, by decide +kernel⟩
theorem bd_is_form (T : Tx P w K mg) : Binds K T.fd25 ["value", "width"] [] := T.f25.bindsN fun _ _ _ _ _ _ us hl => match us, hl with | [_, _], _ => rfl
theorem ok_is_form (T : Tx P w K mg) : FnG P w K mg base 2 T.a25 T.fd25 ["value", "width"] (PSp K 2 m_is_form) := by
  refine fn_val (N := ["value", "width", "number"]) T.f25 sc_is_form rfl fun cdv hcd A outer s H E hr => ?_
  have tk := takes_of (X := cxOf (L2.CX P w) P w K mg base ["value", "width", "number"] "is_form" (defScope s_is_form) T.a25 cdv A outer s H E) (E := E) rfl rfl rfl rfl
  have hp := passes_of (X := cxOf (L2.CX P w) P w K mg base ["value", "width", "number"] "is_form" (defScope s_is_form) T.a25 cdv A outer s H E) rfl
  have hu := hr.units
  exact (AB.one (AS.ret (AE.and (AE.blt CA.isi (by rfl) T.n_isinstance (by decide +kernel) (AA.cons (AE.var (pv 0)) (AA.cons (AE.ty (T := "tuple") (by rfl) T.n_tuple (by decide +kernel)) AA.nil))) (AE.and (AE.cmp (OA.eq hu) (AE.blt CA.len (by rfl) T.n_len PySem.boot_len (AA.cons (AE.var (pv 0)) AA.nil)) (AE.var (pv 1)) (nomark _)) (AE.one (AE.blt (CA.all rfl) (by rfl) T.n_all (by decide +kernel) (AA.cons (AE.ofN (AN.lc (own := [("number", 2)]) (t := (.sl 2)) rfl sc_is_form.nd (AI.any (AE.var (pv 0))) (blkOk_by (N := ["value", "width", "number"]) (sc := defScope s_is_form) (by decide +kernel)) (by decide) (fun _ _ _ _ _ => (AG.name sc_is_form.nd rfl (by first | exact .inl rfl | exact .inr rfl))) (fun _ _ _ _ _ => ATs.nil) (fun _ _ _ _ _ => (AE.call (ok_is_integer T) (hr.mono (by decide)) (by rfl) T.g4 T.f4.kp (bd_is_integer T) .nil (fun _ _ => .nil) takes0 (AA.cons (AE.var (pv 2)) AA.nil))))) AA.nil)))))))
abbrev s_is_small_form : Stmt := topS 26
theorem sc_is_small_form : FnScope ["value", "width", "most", "number"] ["value", "width", "most"] (defScope s_is_small_form) := ⟨rfl, rfl, rfl, by decide +kernel, rfl, by decide +kernel, by decide +kernel⟩
theorem bd_is_small_form (T : Tx P w K mg) : Binds K T.fd26 ["value", "width", "most"] [] := T.f26.bindsN fun _ _ _ _ _ _ us hl => match us, hl with | [_, _, _], _ => rfl
theorem ok_is_small_form (T : Tx P w K mg) : FnG P w K mg base 3 T.a26 T.fd26 ["value", "width", "most"] (PSp K 3 m_is_small_form) := by
  refine fn_val (N := ["value", "width", "most", "number"]) T.f26 sc_is_small_form rfl fun cdv hcd A outer s H E hr => ?_
  have tk := takes_of (X := cxOf (L2.CX P w) P w K mg base ["value", "width", "most", "number"] "is_small_form" (defScope s_is_small_form) T.a26 cdv A outer s H E) (E := E) rfl rfl rfl rfl
  have hp := passes_of (X := cxOf (L2.CX P w) P w K mg base ["value", "width", "most", "number"] "is_small_form" (defScope s_is_small_form) T.a26 cdv A outer s H E) rfl
  have hu := hr.units
  exact (AB.one (AS.ret (AE.and (AE.call (ok_is_form T) (hr.mono (by decide)) (by rfl) T.g25 T.f25.kp (bd_is_form T) .nil (fun _ _ => .nil) tk (AA.cons (AE.var (pv 0)) (AA.cons (AE.var (pv 1)) AA.nil))) (AE.one (AE.blt (CA.all rfl) (by rfl) T.n_all (by decide +kernel) (AA.cons (AE.ofN (AN.lc (own := [("number", 3)]) (t := (.sl 3)) rfl sc_is_small_form.nd (AI.any (AE.var (pv 0))) (blkOk_by (N := ["value", "width", "most", "number"]) (sc := defScope s_is_small_form) (by decide +kernel)) (by decide) (fun _ _ _ _ _ => (AG.name sc_is_small_form.nd rfl (by first | exact .inl rfl | exact .inr rfl))) (fun _ _ _ _ _ => ATs.nil) (fun _ _ _ _ _ => (AE.chain OA.le OA.le (AE.un UA.neg (AE.var (pv 2))) (AE.var (pv 3)) (AE.var (pv 2)))))) AA.nil))))))
abbrev s_is_step : Stmt := topS 29
theorem sc_is_step : FnScope ["value", "width", "place", "number"] ["value", "width", "place"] (defScope s_is_step) := ⟨rfl, rfl, rfl, by decide +kernel, rfl, by decide +kernel, by decide +kernel⟩
theorem bd_is_step (T : Tx P w K mg) : Binds K T.fd29 ["value", "width", "place"] [] := T.f29.bindsN fun _ _ _ _ _ _ us hl => match us, hl with | [_, _, _], _ => rfl
theorem ok_is_step (T : Tx P w K mg) : FnG P w K mg base 4 T.a29 T.fd29 ["value", "width", "place"] (PSp K 3 m_is_step) := by
  refine fn_val (N := ["value", "width", "place", "number"]) T.f29 sc_is_step rfl fun cdv hcd A outer s H E hr => ?_
  have tk := takes_of (X := cxOf (L2.CX P w) P w K mg base ["value", "width", "place", "number"] "is_step" (defScope s_is_step) T.a29 cdv A outer s H E) (E := E) rfl rfl rfl rfl
  have hp := passes_of (X := cxOf (L2.CX P w) P w K mg base ["value", "width", "place", "number"] "is_step" (defScope s_is_step) T.a29 cdv A outer s H E) rfl
  have hu := hr.units
  exact (AB.cons (AS.if_ (AW.pt (AW.or (AT.not (AT.val (AE.call (ok_is_small_form T) (hr.mono (by decide)) (by rfl) T.g26 T.f26.kp (bd_is_small_form T) .nil (fun _ _ => .nil) tk (AA.cons (AE.var (pv 0)) (AA.cons (AE.var (pv 1)) (AA.cons (AE.gint rfl T.c_MAX_STEP) AA.nil)))))) (AW.or1 (AT.not (AT.chain OA.le OA.le (AE.un UA.neg (AE.gint rfl T.c_MAX_MULTIPLIER)) (AE.ix (AE.var (pv 0)) (AE.var (pv 2))) (AE.gint rfl T.c_MAX_MULTIPLIER)))))) (AB.one (AS.ret AE.bl)) AB.nil)
    (AB.one (AS.ret (AE.blt (CA.all rfl) (by rfl) T.n_all (by decide +kernel) (AA.cons (AE.ofN (AN.lc (own := [("number", 3)]) (t := (.sl 3)) rfl sc_is_step.nd (AI.any (AE.slice (AE.var (pv 0)) (AO.some (AE.bin OA.add (AE.var (pv 2)) AE.int)) AO.none)) (blkOk_by (N := ["value", "width", "place", "number"]) (sc := defScope s_is_step) (by decide +kernel)) (by decide) (fun _ _ _ _ _ => (AG.name sc_is_step.nd rfl (by first | exact .inl rfl | exact .inr rfl))) (fun _ _ _ _ _ => ATs.nil) (fun _ _ _ _ _ => (AE.cmp (OA.eq hu) (AE.var (pv 3)) AE.int (nomark _))))) AA.nil)))))
abbrev s_are_steps : Stmt := topS 30
theorem sc_are_steps : FnScope ["value", "width", "at", "step"] ["value", "width"] (defScope s_are_steps) := ⟨rfl, rfl, rfl, by decide +kernel, rfl, by decide +kernel, by decide +kernel⟩
theorem bd_are_steps (T : Tx P w K mg) : Binds K T.fd30 ["value", "width"] [] := T.f30.bindsN fun _ _ _ _ _ _ us hl => match us, hl with | [_, _], _ => rfl
theorem ok_are_steps (T : Tx P w K mg) : FnG P w K mg base 5 T.a30 T.fd30 ["value", "width"] (PSp K 2 m_are_steps) := by
  refine fn_val (N := ["value", "width", "at", "step"]) T.f30 sc_are_steps rfl fun cdv hcd A outer s H E hr => ?_
  have tk := takes_of (X := cxOf (L2.CX P w) P w K mg base ["value", "width", "at", "step"] "are_steps" (defScope s_are_steps) T.a30 cdv A outer s H E) (E := E) rfl rfl rfl rfl
  have hp := passes_of (X := cxOf (L2.CX P w) P w K mg base ["value", "width", "at", "step"] "are_steps" (defScope s_are_steps) T.a30 cdv A outer s H E) rfl
  have hu := hr.units
  exact (AB.cons (AS.if_ (AW.pt (AW.or (AT.not (AT.val (AE.blt CA.isi (by rfl) T.n_isinstance (by decide +kernel) (AA.cons (AE.var (pv 0)) (AA.cons (AE.ty (T := "tuple") (by rfl) T.n_tuple (by decide +kernel)) AA.nil))))) (AW.or1 (AT.cmp (OA.ne hu) (AE.blt CA.len (by rfl) T.n_len PySem.boot_len (AA.cons (AE.var (pv 0)) AA.nil)) (AE.bin OA.sub (AE.var (pv 1)) AE.int) (nomark _))))) (AB.one (AS.ret AE.bl)) AB.nil)
    (AB.one (AS.ret (AE.blt (CA.all rfl) (by rfl) T.n_all (by decide +kernel) (AA.cons (AE.ofN (AN.lc (own := [("at", 2), ("step", 3)]) (t := (.tp [(.sl 2), (.sl 3)])) rfl sc_are_steps.nd (AI.enum (by rfl) T.n_enumerate (AA.cons (AE.var (pv 0)) AA.nil)) (blkOk_by (N := ["value", "width", "at", "step"]) (sc := defScope s_are_steps) (by decide +kernel)) (by decide) (fun _ _ _ _ _ => (AG.tup rfl (AGs.cons (AG.name sc_are_steps.nd rfl (by first | exact .inl rfl | exact .inr rfl)) (AGs.cons (AG.name sc_are_steps.nd rfl (by first | exact .inl rfl | exact .inr rfl)) AGs.nil)))) (fun _ _ _ _ _ => ATs.nil) (fun _ _ _ _ _ => (AE.call (ok_is_step T) (hr.mono (by decide)) (by rfl) T.g29 T.f29.kp (bd_is_step T) .nil (fun _ _ => .nil) takes0 (AA.cons (AE.var (pv 3)) (AA.cons (AE.var (pv 1)) (AA.cons (AE.bin OA.add (AE.var (pv 2)) AE.int) AA.nil))))))) AA.nil)))))
abbrev s_is_sign : Stmt := topS 27
theorem sc_is_sign : FnScope ["value"] ["value"] (defScope s_is_sign) := ⟨rfl, rfl, rfl, by decide +kernel, rfl, by decide +kernel, by decide +kernel⟩
theorem bd_is_sign (T : Tx P w K mg) : Binds K T.fd27 ["value"] [] := T.f27.bindsN fun _ _ _ _ _ _ us hl => match us, hl with | [_], _ => rfl
theorem ok_is_sign (T : Tx P w K mg) : FnG P w K mg base 1 T.a27 T.fd27 ["value"] (PSp K 1 m_is_sign) := by
  refine fn_val (N := ["value"]) T.f27 sc_is_sign rfl fun cdv hcd A outer s H E hr => ?_
  have tk := takes_of (X := cxOf (L2.CX P w) P w K mg base ["value"] "is_sign" (defScope s_is_sign) T.a27 cdv A outer s H E) (E := E) rfl rfl rfl rfl
  have hp := passes_of (X := cxOf (L2.CX P w) P w K mg base ["value"] "is_sign" (defScope s_is_sign) T.a27 cdv A outer s H E) rfl
  have hu := hr.units
  exact (AB.one (AS.ret (AE.and (AE.blt CA.isi (by rfl) T.n_isinstance (by decide +kernel) (AA.cons (AE.var (pv 0)) (AA.cons (AE.ty (T := "str") (by rfl) T.n_str (by decide +kernel)) AA.nil))) (AE.one (AE.cmp (OA.in_ hu) (AE.var (pv 0)) (AE.gtab rfl T.t_SIGNS T.r_SIGNS) rfl)))))
abbrev s_is_test : Stmt := topS 28
theorem sc_is_test : FnScope ["value", "width"] ["value", "width"] (defScope s_is_test) := ⟨rfl, rfl, rfl, by decide +kernel, rfl, by decide +kernel, by decide +kernel⟩
theorem bd_is_test (T : Tx P w K mg) : Binds K T.fd28 ["value", "width"] [] := T.f28.bindsN fun _ _ _ _ _ _ us hl => match us, hl with | [_, _], _ => rfl
theorem ok_is_test (T : Tx P w K mg) : FnG P w K mg base 4 T.a28 T.fd28 ["value", "width"] (PSp K 2 m_is_test) := by
  refine fn_val (N := ["value", "width"]) T.f28 sc_is_test rfl fun cdv hcd A outer s H E hr => ?_
  have tk := takes_of (X := cxOf (L2.CX P w) P w K mg base ["value", "width"] "is_test" (defScope s_is_test) T.a28 cdv A outer s H E) (E := E) rfl rfl rfl rfl
  have hp := passes_of (X := cxOf (L2.CX P w) P w K mg base ["value", "width"] "is_test" (defScope s_is_test) T.a28 cdv A outer s H E) rfl
  have hu := hr.units
  exact (AB.cons (AS.if_ (AW.pt (AW.or (AT.not (AT.val (AE.blt CA.isi (by rfl) T.n_isinstance (by decide +kernel) (AA.cons (AE.var (pv 0)) (AA.cons (AE.ty (T := "tuple") (by rfl) T.n_tuple (by decide +kernel)) AA.nil))))) (AW.or1 (AT.cmp (OA.ne hu) (AE.blt CA.len (by rfl) T.n_len PySem.boot_len (AA.cons (AE.var (pv 0)) AA.nil)) AE.int (nomark _))))) (AB.one (AS.ret AE.bl)) AB.nil)
    (AB.one (AS.ret (AE.and (AE.call (ok_is_sign T) (hr.mono (by decide)) (by rfl) T.g27 T.f27.kp (bd_is_sign T) .nil (fun _ _ => .nil) tk (AA.cons (AE.ix (AE.var (pv 0)) AE.int) AA.nil)) (AE.one (AE.call (ok_is_small_form T) (hr.mono (by decide)) (by rfl) T.g26 T.f26.kp (bd_is_small_form T) .nil (fun _ _ => .nil) tk (AA.cons (AE.ix (AE.var (pv 0)) AE.int) (AA.cons (AE.var (pv 1)) (AA.cons (AE.gint rfl T.c_MAX_TEST_NUMBER) AA.nil)))))))))
abbrev s_are_tests : Stmt := topS 31
theorem sc_are_tests : FnScope ["value", "width", "test"] ["value", "width"] (defScope s_are_tests) := ⟨rfl, rfl, rfl, by decide +kernel, rfl, by decide +kernel, by decide +kernel⟩
theorem bd_are_tests (T : Tx P w K mg) : Binds K T.fd31 ["value", "width"] [] := T.f31.bindsN fun _ _ _ _ _ _ us hl => match us, hl with | [_, _], _ => rfl
theorem ok_are_tests (T : Tx P w K mg) : FnG P w K mg base 5 T.a31 T.fd31 ["value", "width"] (PSp K 2 m_are_tests) := by
  refine fn_val (N := ["value", "width", "test"]) T.f31 sc_are_tests rfl fun cdv hcd A outer s H E hr => ?_
  have tk := takes_of (X := cxOf (L2.CX P w) P w K mg base ["value", "width", "test"] "are_tests" (defScope s_are_tests) T.a31 cdv A outer s H E) (E := E) rfl rfl rfl rfl
  have hp := passes_of (X := cxOf (L2.CX P w) P w K mg base ["value", "width", "test"] "are_tests" (defScope s_are_tests) T.a31 cdv A outer s H E) rfl
  have hu := hr.units
  exact (AB.cons (AS.if_ (AW.pt (AW.or (AT.not (AT.val (AE.blt CA.isi (by rfl) T.n_isinstance (by decide +kernel) (AA.cons (AE.var (pv 0)) (AA.cons (AE.ty (T := "tuple") (by rfl) T.n_tuple (by decide +kernel)) AA.nil))))) (AW.or1 (AT.not (AT.chain OA.le OA.le AE.int (AE.blt CA.len (by rfl) T.n_len PySem.boot_len (AA.cons (AE.var (pv 0)) AA.nil)) (AE.gint rfl T.c_MAX_TESTS)))))) (AB.one (AS.ret AE.bl)) AB.nil)
    (AB.one (AS.ret (AE.blt (CA.all rfl) (by rfl) T.n_all (by decide +kernel) (AA.cons (AE.ofN (AN.lc (own := [("test", 2)]) (t := (.sl 2)) rfl sc_are_tests.nd (AI.any (AE.var (pv 0))) (blkOk_by (N := ["value", "width", "test"]) (sc := defScope s_are_tests) (by decide +kernel)) (by decide) (fun _ _ _ _ _ => (AG.name sc_are_tests.nd rfl (by first | exact .inl rfl | exact .inr rfl))) (fun _ _ _ _ _ => ATs.nil) (fun _ _ _ _ _ => (AE.call (ok_is_test T) (hr.mono (by decide)) (by rfl) T.g28 T.f28.kp (bd_is_test T) .nil (fun _ _ => .nil) takes0 (AA.cons (AE.var (pv 2)) (AA.cons (AE.var (pv 1)) AA.nil)))))) AA.nil)))))
abbrev s_Loop___init__ : Stmt := inCls (topS 32) 0
theorem sc_Loop___init__ : FnScope ["self", "names", "steps", "tests", "name", "step"] ["self", "names", "steps", "tests"] (defScope s_Loop___init__) := ⟨rfl, rfl, rfl, by decide +kernel, rfl, by decide +kernel, by decide +kernel⟩
theorem bd_Loop___init__ (T : Tx P w K mg) : Binds K T.fd32_0 ["self", "names", "steps", "tests"] [] := T.f32_0.bindsN fun _ _ _ _ _ _ us hl => match us, hl with | [_, _, _, _], _ => rfl
theorem ok_Loop___init__ (T : Tx P w K mg) : FnG P w K mg base 6 T.a32_0 T.fd32_0 ["self", "names", "steps", "tests"] (ISp K 3 m_Loop___init__) := by
  refine fn_io (N := ["self", "names", "steps", "tests", "name", "step"]) T.f32_0 sc_Loop___init__ rfl fun cdv hcd A outer s H E hr => ?_
  have tk := takes_of (X := cxOf (L2.CX P w) P w K mg base ["self", "names", "steps", "tests", "name", "step"] "Loop.__init__" (defScope s_Loop___init__) T.a32_0 cdv A outer s H E) (E := E) rfl rfl rfl rfl
  have hp := passes_of (X := cxOf (L2.CX P w) P w K mg base ["self", "names", "steps", "tests", "name", "step"] "Loop.__init__" (defScope s_Loop___init__) T.a32_0 cdv A outer s H E) rfl
  have hu := hr.units
  exact (AB.cons (AS.if_ (AT.not (AT.val (AE.call (ok_is_names T) (hr.mono (by decide)) (by rfl) T.g6 T.f6.kp (bd_is_names T) .nil (fun _ _ => .nil) tk (AA.cons (AE.var (pv 1)) AA.nil)))) (AB.one (AS.raise rfl tk T.e_InvalidName T.o_InvalidName rfl)) AB.nil)
    (AB.cons (AS.if_ (AW.pt (AW.or (AT.not (AT.val (AE.call (ok_are_steps T) (hr.mono (by decide)) (by rfl) T.g30 T.f30.kp (bd_are_steps T) .nil (fun _ _ => .nil) tk (AA.cons (AE.var (pv 2)) (AA.cons (AE.bin OA.add (AE.blt CA.len (by rfl) T.n_len PySem.boot_len (AA.cons (AE.var (pv 1)) AA.nil)) AE.int) AA.nil))))) (AW.or1 (AT.not (AT.val (AE.call (ok_are_tests T) (hr.mono (by decide)) (by rfl) T.g31 T.f31.kp (bd_are_tests T) .nil (fun _ _ => .nil) tk (AA.cons (AE.var (pv 3)) (AA.cons (AE.bin OA.add (AE.blt CA.len (by rfl) T.n_len PySem.boot_len (AA.cons (AE.var (pv 1)) AA.nil)) AE.int) AA.nil)))))))) (AB.one (AS.raise rfl tk T.e_InvalidLoop T.o_InvalidLoop rfl)) AB.nil)
    (AB.cons (AS.fld (AE.var (pv 1)) (pv 0) T.f_Loop_own_names)
    (AB.cons (AS.fld (AE.var (pv 2)) (pv 0) T.f_Loop_own_steps)
    (AB.cons (AS.fld (AE.dc (own := [("name", 4), ("step", 5)]) (t := (.tp [(.sl 4), (.sl 5)])) rfl sc_Loop___init__.nd (AI.zipM (by rfl) T.n_zip (AA.cons (AE.var (pv 1)) (AA.cons (AE.var (pv 2)) AA.nil))) (blkOk_by (N := ["self", "names", "steps", "tests", "name", "step"]) (sc := defScope s_Loop___init__) (by decide +kernel)) (by decide) (fun _ _ _ _ _ => (AG.tup rfl (AGs.cons (AG.name sc_Loop___init__.nd rfl (by first | exact .inl rfl | exact .inr rfl)) (AGs.cons (AG.name sc_Loop___init__.nd rfl (by first | exact .inl rfl | exact .inr rfl)) AGs.nil)))) (fun _ _ _ _ _ => ATs.nil) (fun _ _ _ _ _ => (AE.var (pv 4))) (fun _ _ _ _ _ => (AE.var (pv 5)))) (pv 0) T.f_Loop_own_by_name)
    (AB.cons (AS.fld (AE.var (pv 3)) (pv 0) T.f_Loop_own_tests)
    (AB.cons (AS.fld (AE.bin OA.add (AE.blt CA.len (by rfl) T.n_len PySem.boot_len (AA.cons (AE.var (pv 1)) AA.nil)) AE.int) (pv 0) T.f_Loop_own_width)
    (AB.one (AS.fld (AE.tup (AA.cons (AE.tup (AA.cons AE.int (AA.star (AE.ofN (AN.lc (own := [("name", 4)]) (t := (.sl 4)) rfl sc_Loop___init__.nd (AI.any (AE.var (pv 1))) (blkOk_by (N := ["self", "names", "steps", "tests", "name", "step"]) (sc := defScope s_Loop___init__) (by decide +kernel)) (by decide) (fun _ _ _ _ _ => (AG.name sc_Loop___init__.nd rfl (by first | exact .inl rfl | exact .inr rfl))) (fun _ _ _ _ _ => ATs.nil) (fun _ _ _ _ _ => AE.int))) AA.nil))) (AA.star (AE.var (pv 2)) AA.nil))) (pv 0) T.f_Loop_own_matrix)))))))))
abbrev s__law_made_loop : Stmt := topS 43
theorem sc__law_made_loop : FnScope ["_law_loop"] ["_law_loop"] (defScope s__law_made_loop) := ⟨rfl, rfl, rfl, by decide +kernel, rfl, by decide +kernel, by decide +kernel⟩
theorem bd__law_made_loop (T : Tx P w K mg) : Binds K T.fd43 ["_law_loop"] [] := T.f43.bindsN fun _ _ _ _ _ _ us hl => match us, hl with | [_], _ => rfl
theorem ok__law_made_loop (T : Tx P w K mg) : FnG P w K mg base 8 T.a43 T.fd43 ["_law_loop"] (PSp K 1 m__law_made_loop) := by
  refine fn_val (N := ["_law_loop"]) T.f43 sc__law_made_loop rfl fun cdv hcd A outer s H E hr => ?_
  have tk := takes_of (X := cxOf (L2.CX P w) P w K mg base ["_law_loop"] "_law_made_loop" (defScope s__law_made_loop) T.a43 cdv A outer s H E) (E := E) rfl rfl rfl rfl
  have hp := passes_of (X := cxOf (L2.CX P w) P w K mg base ["_law_loop"] "_law_made_loop" (defScope s__law_made_loop) T.a43 cdv A outer s H E) rfl
  have hu := hr.units
  exact (AB.one (AS.ret (AE.make T.k_Loop (ok_Loop___init__ T) (hr.mono (by decide)) (by rfl) T.o_Loop (bd_Loop___init__ T) .nil (fun _ _ => .nil) tk (AA.cons (AE.dget hu (AE.var (pv 0)) AE.str (fun _ _ => rfl)) (AA.cons (AE.dget hu (AE.var (pv 0)) AE.str (fun _ _ => rfl)) (AA.cons (AE.dget hu (AE.var (pv 0)) AE.str (fun _ _ => rfl)) AA.nil))))))
abbrev s__law_bit : Stmt := topS 38
theorem sc__law_bit : FnScope ["_law_bowl_here", "_law_much", "_law_one", "_law_two", "_law_found"] ["_law_bowl_here", "_law_much"] (defScope s__law_bit) := ⟨rfl, rfl, rfl, by decide +kernel, rfl, by decide +kernel, by decide +kernel⟩
theorem bd__law_bit (T : Tx P w K mg) : Binds K T.fd38 ["_law_bowl_here", "_law_much"] [] := T.f38.bindsN fun _ _ _ _ _ _ us hl => match us, hl with | [_, _], _ => rfl
theorem ok__law_bit (T : Tx P w K mg) : FnG P w K mg base 1 T.a38 T.fd38 ["_law_bowl_here", "_law_much"] (ISp K 1 m__law_bit) := by
  refine fn_io (N := ["_law_bowl_here", "_law_much", "_law_one", "_law_two", "_law_found"]) T.f38 sc__law_bit rfl fun cdv hcd A outer s H E hr => ?_
  have tk := takes_of (X := cxOf (L2.CX P w) P w K mg base ["_law_bowl_here", "_law_much", "_law_one", "_law_two", "_law_found"] "_law_bit" (defScope s__law_bit) T.a38 cdv A outer s H E) (E := E) rfl rfl rfl rfl
  have hp := passes_of (X := cxOf (L2.CX P w) P w K mg base ["_law_bowl_here", "_law_much", "_law_one", "_law_two", "_law_found"] "_law_bit" (defScope s__law_bit) T.a38 cdv A outer s H E) rfl
  have hu := hr.units
  exact (AB.cons (AS.if_ (AT.cmp OA.gt (AE.ixN (pv 0) AE.int) AE.int (nomark _)) (AB.cons (AS.set sc__law_bit.nd rfl (.inl rfl) (AE.bin OA.mod (AE.bty CA.int (by rfl) T.n_int (by decide +kernel) (AA.cons (AE.ixN (pv 0) AE.int) AA.nil)) (AE.var (pv 1))))
    (AB.cons (AS.setIx (AE.bin OA.div (AE.ixN (pv 0) AE.int) (AE.var (pv 1))) (pv 0) AE.int)
    (AB.one (AS.ret (AE.var (pv 4)))))) AB.nil)
    (AB.cons (AS.setIx (AE.bin OA.add (AE.ixN (pv 0) AE.int) AE.int) (pv 0) AE.int)
    (AB.cons (AS.set sc__law_bit.nd rfl (.inl rfl) (AE.bin OA.mod (AE.bty CA.int (by rfl) T.n_int (by decide +kernel) (AA.cons (AE.bin OA.add (AE.ixN (pv 0) AE.int) (AE.bin OA.mul AE.int (AE.ixN (pv 0) AE.int))) AA.nil)) AE.int))
    (AB.cons (AS.set sc__law_bit.nd rfl (.inl rfl) (AE.bin OA.add (AE.bin OA.mul (AE.bin OA.mod (AE.bty CA.int (by rfl) T.n_int (by decide +kernel) (AA.cons (AE.bin OA.mul (AE.var (pv 2)) (AE.var (pv 2))) AA.nil)) AE.int) (AE.var (pv 2))) (AE.bin OA.mul AE.int (AE.ixN (pv 0) AE.int))))
    (AB.one (AS.ret (AE.bin OA.mod (AE.bty CA.int (by rfl) T.n_int (by decide +kernel) (AA.cons (AE.bin OA.div (AE.bin OA.mod (AE.bty CA.int (by rfl) T.n_int (by decide +kernel) (AA.cons (AE.var (pv 3)) AA.nil)) AE.int) AE.int) AA.nil)) (AE.var (pv 1)))))))))
abbrev s__law_pick : Stmt := topS 39
theorem sc__law_pick : FnScope ["_law_bowl_here", "_law_items"] ["_law_bowl_here", "_law_items"] (defScope s__law_pick) := ⟨rfl, rfl, rfl, by decide +kernel, rfl, by decide +kernel, by decide +kernel⟩
theorem bd__law_pick (T : Tx P w K mg) : Binds K T.fd39 ["_law_bowl_here", "_law_items"] [] := T.f39.bindsN fun _ _ _ _ _ _ us hl => match us, hl with | [_, _], _ => rfl
theorem ok__law_pick (T : Tx P w K mg) : FnG P w K mg base 2 T.a39 T.fd39 ["_law_bowl_here", "_law_items"] (ISp K 1 m__law_pick) := by
  refine fn_io (N := ["_law_bowl_here", "_law_items"]) T.f39 sc__law_pick rfl fun cdv hcd A outer s H E hr => ?_
  have tk := takes_of (X := cxOf (L2.CX P w) P w K mg base ["_law_bowl_here", "_law_items"] "_law_pick" (defScope s__law_pick) T.a39 cdv A outer s H E) (E := E) rfl rfl rfl rfl
  have hp := passes_of (X := cxOf (L2.CX P w) P w K mg base ["_law_bowl_here", "_law_items"] "_law_pick" (defScope s__law_pick) T.a39 cdv A outer s H E) rfl
  have hu := hr.units
  exact (AB.one (AS.ret (AE.ix (AE.var (pv 1)) (AE.callIo (ok__law_bit T) (hr.mono (by decide)) (by rfl) T.g38 T.f38.kp (bd__law_bit T) tk (pv 0) (AA.cons (AE.blt CA.len (by rfl) T.n_len PySem.boot_len (AA.cons (AE.var (pv 1)) AA.nil)) AA.nil)))))
abbrev s__law_dealt : Stmt := topS 40
theorem sc__law_dealt : FnScope ["_law_bowl_here", "_law_items", "_law_waits", "_law_turn"] ["_law_bowl_here", "_law_items"] (defScope s__law_dealt) := ⟨rfl, rfl, rfl, by decide +kernel, rfl, by decide +kernel, by decide +kernel⟩
theorem bd__law_dealt (T : Tx P w K mg) : Binds K T.fd40 ["_law_bowl_here", "_law_items"] [] := T.f40.bindsN fun _ _ _ _ _ _ us hl => match us, hl with | [_, _], _ => rfl
theorem ok__law_dealt (T : Tx P w K mg) : FnG P w K mg base 2 T.a40 T.fd40 ["_law_bowl_here", "_law_items"] (ISp K 1 m__law_dealt) := by
  refine fn_io (N := ["_law_bowl_here", "_law_items", "_law_waits", "_law_turn"]) T.f40 sc__law_dealt rfl fun cdv hcd A outer s H E hr => ?_
  have tk := takes_of (X := cxOf (L2.CX P w) P w K mg base ["_law_bowl_here", "_law_items", "_law_waits", "_law_turn"] "_law_dealt" (defScope s__law_dealt) T.a40 cdv A outer s H E) (E := E) rfl rfl rfl rfl
  have hp := passes_of (X := cxOf (L2.CX P w) P w K mg base ["_law_bowl_here", "_law_items", "_law_waits", "_law_turn"] "_law_dealt" (defScope s__law_dealt) T.a40 cdv A outer s H E) rfl
  have hu := hr.units
  exact (AB.cons (AS.own sc__law_dealt.nd rfl (.inr rfl) (AN.list (by rfl) T.n_list (AA.cons (AE.var (pv 1)) AA.nil)))
    (AB.one (AS.ret (AE.ofN (AN.lc (own := [("_law_turn", 3)]) (t := (.sl 3)) rfl sc__law_dealt.nd (AI.range1 (by rfl) T.n_range (AA.cons (AE.blt CA.len (by rfl) T.n_len PySem.boot_len (AA.cons (AE.var (pv 1)) AA.nil)) AA.nil)) (blkOk_by (N := ["_law_bowl_here", "_law_items", "_law_waits", "_law_turn"]) (sc := defScope s__law_dealt) (by decide +kernel)) (by decide) (fun _ _ _ _ _ => (AG.name sc__law_dealt.nd rfl (by first | exact .inl rfl | exact .inr rfl))) (fun _ _ _ _ _ => ATs.nil) (fun _ _ _ _ _ => (AE.popAt (pv 2) (AE.callIo (ok__law_bit T) (hr.mono (by decide)) (by rfl) T.g38 T.f38.kp (bd__law_bit T) takes0 (pv 0) (AA.cons (AE.lenN (pv 2) (by rfl) T.n_len) AA.nil)))))))))
abbrev s__law_small : Stmt := topS 41
theorem sc__law_small : FnScope ["_law_bowl_here", "_law_most", "_law_lot"] ["_law_bowl_here", "_law_most"] (defScope s__law_small) := ⟨rfl, rfl, rfl, by decide +kernel, rfl, by decide +kernel, by decide +kernel⟩
theorem bd__law_small (T : Tx P w K mg) : Binds K T.fd41 ["_law_bowl_here", "_law_most"] [] := T.f41.bindsN fun _ _ _ _ _ _ us hl => match us, hl with | [_, _], _ => rfl
theorem ok__law_small (T : Tx P w K mg) : FnG P w K mg base 2 T.a41 T.fd41 ["_law_bowl_here", "_law_most"] (ISp K 1 m__law_small) := by
  refine fn_io (N := ["_law_bowl_here", "_law_most", "_law_lot"]) T.f41 sc__law_small rfl fun cdv hcd A outer s H E hr => ?_
  have tk := takes_of (X := cxOf (L2.CX P w) P w K mg base ["_law_bowl_here", "_law_most", "_law_lot"] "_law_small" (defScope s__law_small) T.a41 cdv A outer s H E) (E := E) rfl rfl rfl rfl
  have hp := passes_of (X := cxOf (L2.CX P w) P w K mg base ["_law_bowl_here", "_law_most", "_law_lot"] "_law_small" (defScope s__law_small) T.a41 cdv A outer s H E) rfl
  have hu := hr.units
  exact (AB.cons (AS.set sc__law_small.nd rfl (.inl rfl) (AE.callIo (ok__law_bit T) (hr.mono (by decide)) (by rfl) T.g38 T.f38.kp (bd__law_bit T) tk (pv 0) (AA.cons AE.int AA.nil)))
    (AB.one (AS.ret (AE.ifx (AT.cmp OA.lt (AE.var (pv 2)) AE.int (nomark _)) (AE.var (pv 2)) (AE.bin OA.sub (AE.callIo (ok__law_bit T) (hr.mono (by decide)) (by rfl) T.g38 T.f38.kp (bd__law_bit T) tk (pv 0) (AA.cons (AE.bin OA.add (AE.bin OA.mul AE.int (AE.var (pv 1))) AE.int) AA.nil)) (AE.var (pv 1)))))))
abbrev s__law_line : Stmt := topS 42
theorem sc__law_line : FnScope ["_law_bowl_here", "_law_size", "_law_most", "_law_turn"] ["_law_bowl_here", "_law_size", "_law_most"] (defScope s__law_line) := ⟨rfl, rfl, rfl, by decide +kernel, rfl, by decide +kernel, by decide +kernel⟩
theorem bd__law_line (T : Tx P w K mg) : Binds K T.fd42 ["_law_bowl_here", "_law_size", "_law_most"] [] := T.f42.bindsN fun _ _ _ _ _ _ us hl => match us, hl with | [_, _, _], _ => rfl
theorem ok__law_line (T : Tx P w K mg) : FnG P w K mg base 3 T.a42 T.fd42 ["_law_bowl_here", "_law_size", "_law_most"] (ISp K 2 m__law_line) := by
  refine fn_io (N := ["_law_bowl_here", "_law_size", "_law_most", "_law_turn"]) T.f42 sc__law_line rfl fun cdv hcd A outer s H E hr => ?_
  have tk := takes_of (X := cxOf (L2.CX P w) P w K mg base ["_law_bowl_here", "_law_size", "_law_most", "_law_turn"] "_law_line" (defScope s__law_line) T.a42 cdv A outer s H E) (E := E) rfl rfl rfl rfl
  have hp := passes_of (X := cxOf (L2.CX P w) P w K mg base ["_law_bowl_here", "_law_size", "_law_most", "_law_turn"] "_law_line" (defScope s__law_line) T.a42 cdv A outer s H E) rfl
  have hu := hr.units
  exact (AB.one (AS.ret (AE.bty CA.tuple (by rfl) T.n_tuple (by decide +kernel) (AA.cons (AE.ofN (AN.lc (own := [("_law_turn", 3)]) (t := (.sl 3)) rfl sc__law_line.nd (AI.range1 (by rfl) T.n_range (AA.cons (AE.var (pv 1)) AA.nil)) (blkOk_by (N := ["_law_bowl_here", "_law_size", "_law_most", "_law_turn"]) (sc := defScope s__law_line) (by decide +kernel)) (by decide) (fun _ _ _ _ _ => (AG.name sc__law_line.nd rfl (by first | exact .inl rfl | exact .inr rfl))) (fun _ _ _ _ _ => ATs.nil) (fun _ _ _ _ _ => (AE.callIo (ok__law_small T) (hr.mono (by decide)) (by rfl) T.g41 T.f41.kp (bd__law_small T) takes0 (pv 0) (AA.cons (AE.var (pv 2)) AA.nil))))) AA.nil))))
abbrev s__law_wide_loop : Stmt := topS 46
theorem sc__law_wide_loop : FnScope ["_law_bowl_here", "_law_words", "_law_at", "_law_turn", "_law_size", "_law_moves", "_law_checks", "_law_own"] ["_law_bowl_here"] (defScope s__law_wide_loop) := ⟨rfl, rfl, rfl, by decide +kernel, rfl, by decide +kernel, by decide +kernel⟩
theorem bd__law_wide_loop (T : Tx P w K mg) : Binds K T.fd46 ["_law_bowl_here"] [] := T.f46.bindsN fun _ _ _ _ _ _ us hl => match us, hl with | [_], _ => rfl
theorem ok__law_wide_loop (T : Tx P w K mg) : FnG P w K mg base 4 T.a46 T.fd46 ["_law_bowl_here"] (ISp K 0 m__law_wide_loop) := by
  refine fn_io (N := ["_law_bowl_here", "_law_words", "_law_at", "_law_turn", "_law_size", "_law_moves", "_law_checks", "_law_own"]) T.f46 sc__law_wide_loop rfl fun cdv hcd A outer s H E hr => ?_
  have tk := takes_of (X := cxOf (L2.CX P w) P w K mg base ["_law_bowl_here", "_law_words", "_law_at", "_law_turn", "_law_size", "_law_moves", "_law_checks", "_law_own"] "_law_wide_loop" (defScope s__law_wide_loop) T.a46 cdv A outer s H E) (E := E) rfl rfl rfl rfl
  have hp := passes_of (X := cxOf (L2.CX P w) P w K mg base ["_law_bowl_here", "_law_words", "_law_at", "_law_turn", "_law_size", "_law_moves", "_law_checks", "_law_own"] "_law_wide_loop" (defScope s__law_wide_loop) T.a46 cdv A outer s H E) rfl
  have hu := hr.units
  exact (AB.cons (AS.set sc__law_wide_loop.nd rfl (.inl rfl) (AE.bty CA.tuple (by rfl) T.n_tuple (by decide +kernel) (AA.cons (AE.slice (AE.callIo (ok__law_dealt T) (hr.mono (by decide)) (by rfl) T.g40 T.f40.kp (bd__law_dealt T) tk (pv 0) (AA.cons (AE.lst (AA.cons AE.str (AA.cons AE.str (AA.cons AE.str (AA.cons AE.str (AA.cons AE.str (AA.cons AE.str AA.nil))))))) AA.nil)) AO.none (AO.some (AE.bin OA.add AE.int (AE.callIo (ok__law_bit T) (hr.mono (by decide)) (by rfl) T.g38 T.f38.kp (bd__law_bit T) tk (pv 0) (AA.cons AE.int AA.nil))))) AA.nil)))
    (AB.cons (AS.parM3 rfl sc__law_wide_loop.nd rfl rfl rfl (by decide) (by decide) (by decide) rfl rfl rfl (AM.v (AE.blt CA.len (by rfl) T.n_len PySem.boot_len (AA.cons (AE.var (pv 1)) AA.nil)) (AM.n (AN.lst AA.nil) (AM.n (AN.lst AA.nil) AM.nil))))
    (AB.cons (AS.for_ hp rfl (AI.range1 (by rfl) T.n_range (AA.cons (AE.var (pv 4)) AA.nil)) (AG.name sc__law_wide_loop.nd rfl (.inl rfl)) (AB.cons (AS.set sc__law_wide_loop.nd rfl (.inl rfl) (AE.callIo (ok__law_pick T) (hr.mono (by decide)) (by rfl) T.g39 T.f39.kp (bd__law_pick T) tk (pv 0) (AA.cons (AE.lst (AA.cons AE.int (AA.cons AE.int (AA.cons (AE.un UA.neg AE.int) (AA.cons AE.int (AA.cons (AE.un UA.neg AE.int) (AA.cons AE.int AA.nil))))))) AA.nil)))
    (AB.one (AS.expr (AE.app (pv 5) (AE.bin OA.add (AE.bin OA.add (AE.callIo (ok__law_line T) (hr.mono (by decide)) (by rfl) T.g42 T.f42.kp (bd__law_line T) tk (pv 0) (AA.cons (AE.bin OA.add (AE.var (pv 2)) AE.int) (AA.cons AE.int AA.nil))) (AE.tup (AA.cons (AE.var (pv 7)) AA.nil))) (AE.bin OA.mul (AE.tup (AA.cons AE.int AA.nil)) (AE.bin OA.sub (AE.bin OA.sub (AE.var (pv 4)) (AE.var (pv 2))) AE.int))))))))
    (AB.cons (AS.for_ hp rfl (AI.range1 (by rfl) T.n_range (AA.cons (AE.bin OA.add AE.int (AE.callIo (ok__law_bit T) (hr.mono (by decide)) (by rfl) T.g38 T.f38.kp (bd__law_bit T) tk (pv 0) (AA.cons AE.int AA.nil))) AA.nil)) (AG.name sc__law_wide_loop.nd rfl (.inl rfl)) (AB.one (AS.expr (AE.app (pv 6) (AE.tup (AA.cons (AE.callIo (ok__law_pick T) (hr.mono (by decide)) (by rfl) T.g39 T.f39.kp (bd__law_pick T) tk (pv 0) (AA.cons (AE.lst (AA.cons AE.str (AA.cons AE.str AA.nil))) AA.nil)) (AA.cons (AE.callIo (ok__law_line T) (hr.mono (by decide)) (by rfl) T.g42 T.f42.kp (bd__law_line T) tk (pv 0) (AA.cons (AE.bin OA.add (AE.var (pv 4)) AE.int) (AA.cons AE.int AA.nil))) AA.nil)))))))
    (AB.one (AS.ret (AE.dict (AP.cons (AE.var (pv 1)) (AP.cons (AE.bty CA.tuple (by rfl) T.n_tuple (by decide +kernel) (AA.cons (AE.var (pv 5)) AA.nil)) (AP.cons (AE.bty CA.tuple (by rfl) T.n_tuple (by decide +kernel) (AA.cons (AE.var (pv 6)) AA.nil)) AP.nil))) (by decide +kernel) (by simp) (by decide))))))))
abbrev s__law_other : Stmt := topS 47
theorem sc__law_other : FnScope ["_law_loop", "_law_word", "_law_value", "_law_found"] ["_law_loop", "_law_word", "_law_value"] (defScope s__law_other) := ⟨rfl, rfl, rfl, by decide +kernel, rfl, by decide +kernel, by decide +kernel⟩
theorem bd__law_other (T : Tx P w K mg) : Binds K T.fd47 ["_law_loop", "_law_word", "_law_value"] [] := T.f47.bindsN fun _ _ _ _ _ _ us hl => match us, hl with | [_, _, _], _ => rfl
theorem ok__law_other (T : Tx P w K mg) : FnG P w K mg base 1 T.a47 T.fd47 ["_law_loop", "_law_word", "_law_value"] (PSp K 3 m__law_other) := by
  refine fn_val (N := ["_law_loop", "_law_word", "_law_value", "_law_found"]) T.f47 sc__law_other rfl fun cdv hcd A outer s H E hr => ?_
  have tk := takes_of (X := cxOf (L2.CX P w) P w K mg base ["_law_loop", "_law_word", "_law_value", "_law_found"] "_law_other" (defScope s__law_other) T.a47 cdv A outer s H E) (E := E) rfl rfl rfl rfl
  have hp := passes_of (X := cxOf (L2.CX P w) P w K mg base ["_law_loop", "_law_word", "_law_value", "_law_found"] "_law_other" (defScope s__law_other) T.a47 cdv A outer s H E) rfl
  have hu := hr.units
  exact (AB.cons (AS.ownD sc__law_other.nd rfl (.inl rfl) (AND.copy rfl (by rfl) T.n_dict (by rfl) T.n_list (AE.var (pv 0))))
    (AB.cons (AS.dset hu (AE.var (pv 2)) (pv 3) (AE.var (pv 1)))
    (AB.one (AS.ret (AE.var (pv 3))))))
abbrev s__law_met_error : Stmt := topS 45
theorem sc__law_met_error : FnScope ["_law_call", "error"] ["_law_call"] (defScope s__law_met_error) := ⟨rfl, rfl, rfl, by decide +kernel, rfl, by decide +kernel, by decide +kernel⟩
theorem bd__law_met_error (T : Tx P w K mg) : Binds K T.fd45 ["_law_call"] [] := T.f45.bindsN fun _ _ _ _ _ _ us hl => match us, hl with | [_], _ => rfl
theorem th__law_met_error (T : Tx P w K mg) : ThunkOk P w K mg base 0 T.a45 "_law_met_error" ["_law_call", "error"] (defScope s__law_met_error) (defBody s__law_met_error) "_law_call" g__law_met_error_k13 := by
  intro cdg A outer s H F f r hr hcall
  letI p0 : Pins := ⟨[(0, .ref f)], F⟩
  have hu := hr.units
  have hp := passes_of (X := cxOf (L2.CX P w) P w K mg base ["_law_call", "error"] "_law_met_error" (defScope s__law_met_error) T.a45 cdg A outer s H E0F) rfl
  exact (AB.one (AS.try_ rfl rfl takes0 (fun W' pn xe tk po => (AB.one (AS.ret (hcall _ _ _ _ _ tk)))) (AHs.one ⟨rfl, by decide, .inl T.o_InvalidName⟩ (ts := [(Str.ofString "InvalidForm", false), (Str.ofString "InvalidLoop", false), (Str.ofString "InvalidName", true), (Str.ofString "InvalidNumber", false), (Str.ofString "InvalidOperation", false), (Str.ofString "UnknownName", false)]) (by simp only [List.forall_mem_cons, List.not_mem_nil, false_implies, implies_true, and_true]; exact ⟨T.x_InvalidForm_InvalidName, T.x_InvalidLoop_InvalidName, T.x_InvalidName_InvalidName, T.x_InvalidNumber_InvalidName, T.x_InvalidOperation_InvalidName, T.x_UnknownName_InvalidName⟩) (fun y a oe d pn hz hf hct => (AB.one (AS.ret AE.str))) (AHs.one ⟨rfl, by decide, .inl T.o_InvalidForm⟩ (ts := [(Str.ofString "InvalidForm", true), (Str.ofString "InvalidLoop", false), (Str.ofString "InvalidName", false), (Str.ofString "InvalidNumber", false), (Str.ofString "InvalidOperation", false), (Str.ofString "UnknownName", false)]) (by simp only [List.forall_mem_cons, List.not_mem_nil, false_implies, implies_true, and_true]; exact ⟨T.x_InvalidForm_InvalidForm, T.x_InvalidLoop_InvalidForm, T.x_InvalidName_InvalidForm, T.x_InvalidNumber_InvalidForm, T.x_InvalidOperation_InvalidForm, T.x_UnknownName_InvalidForm⟩) (fun y a oe d pn hz hf hct => (AB.one (AS.ret AE.str))) (AHs.one ⟨rfl, by decide, .inl T.o_InvalidLoop⟩ (ts := [(Str.ofString "InvalidForm", false), (Str.ofString "InvalidLoop", true), (Str.ofString "InvalidName", false), (Str.ofString "InvalidNumber", false), (Str.ofString "InvalidOperation", false), (Str.ofString "UnknownName", false)]) (by simp only [List.forall_mem_cons, List.not_mem_nil, false_implies, implies_true, and_true]; exact ⟨T.x_InvalidForm_InvalidLoop, T.x_InvalidLoop_InvalidLoop, T.x_InvalidName_InvalidLoop, T.x_InvalidNumber_InvalidLoop, T.x_InvalidOperation_InvalidLoop, T.x_UnknownName_InvalidLoop⟩) (fun y a oe d pn hz hf hct => (AB.one (AS.ret AE.str))) (AHs.one ⟨rfl, by decide, .inl T.o_InvalidStart⟩ (ts := [(Str.ofString "InvalidForm", false), (Str.ofString "InvalidLoop", false), (Str.ofString "InvalidName", false), (Str.ofString "InvalidNumber", false), (Str.ofString "InvalidOperation", false), (Str.ofString "UnknownName", false)]) (by simp only [List.forall_mem_cons, List.not_mem_nil, false_implies, implies_true, and_true]; exact ⟨T.x_InvalidForm_InvalidStart, T.x_InvalidLoop_InvalidStart, T.x_InvalidName_InvalidStart, T.x_InvalidNumber_InvalidStart, T.x_InvalidOperation_InvalidStart, T.x_UnknownName_InvalidStart⟩) (fun y a oe d pn hz hf hct => (AB.one (AS.ret AE.str))) (AHs.one ⟨rfl, by decide, .inl T.o_InvalidOperation⟩ (ts := [(Str.ofString "InvalidForm", false), (Str.ofString "InvalidLoop", false), (Str.ofString "InvalidName", false), (Str.ofString "InvalidNumber", false), (Str.ofString "InvalidOperation", true), (Str.ofString "UnknownName", false)]) (by simp only [List.forall_mem_cons, List.not_mem_nil, false_implies, implies_true, and_true]; exact ⟨T.x_InvalidForm_InvalidOperation, T.x_InvalidLoop_InvalidOperation, T.x_InvalidName_InvalidOperation, T.x_InvalidNumber_InvalidOperation, T.x_InvalidOperation_InvalidOperation, T.x_UnknownName_InvalidOperation⟩) (fun y a oe d pn hz hf hct => (AB.one (AS.ret AE.str))) (AHs.named sc__law_met_error.nd rfl rfl ⟨rfl, by decide, .inl T.o_InvalidNumber⟩ (ts := [(Str.ofString "InvalidForm", false), (Str.ofString "InvalidLoop", false), (Str.ofString "InvalidName", false), (Str.ofString "InvalidNumber", true), (Str.ofString "InvalidOperation", false), (Str.ofString "UnknownName", false)]) (by simp only [List.forall_mem_cons, List.not_mem_nil, false_implies, implies_true, and_true]; exact ⟨T.x_InvalidForm_InvalidNumber, T.x_InvalidLoop_InvalidNumber, T.x_InvalidName_InvalidNumber, T.x_InvalidNumber_InvalidNumber, T.x_InvalidOperation_InvalidNumber, T.x_UnknownName_InvalidNumber⟩) (fun y a oe d pn F hz hf hct hx => letI pi : Pins := ⟨(1, .ref a) :: Pins.pv, F⟩; (AB.one (AS.ret (AE.bin OA.add AE.str (AE.blt (CA.reprX T.sysK hr.g hu) (by rfl) T.n_repr (by decide +kernel) (AA.cons (AE.errF T.xf_InvalidNumber T.xn_InvalidNumber_value hz hf hct (by decide +kernel) hx (List.mem_cons_self ..) (pv 1)) AA.nil)))))) (AHs.named sc__law_met_error.nd rfl rfl ⟨rfl, by decide, .inl T.o_UnknownName⟩ (ts := [(Str.ofString "InvalidForm", false), (Str.ofString "InvalidLoop", false), (Str.ofString "InvalidName", false), (Str.ofString "InvalidNumber", false), (Str.ofString "InvalidOperation", false), (Str.ofString "UnknownName", true)]) (by simp only [List.forall_mem_cons, List.not_mem_nil, false_implies, implies_true, and_true]; exact ⟨T.x_InvalidForm_UnknownName, T.x_InvalidLoop_UnknownName, T.x_InvalidName_UnknownName, T.x_InvalidNumber_UnknownName, T.x_InvalidOperation_UnknownName, T.x_UnknownName_UnknownName⟩) (fun y a oe d pn F hz hf hct hx => letI pi : Pins := ⟨(1, .ref a) :: Pins.pv, F⟩; (AB.one (AS.ret (AE.bin OA.add AE.str (AE.blt (CA.reprX T.sysK hr.g hu) (by rfl) T.n_repr (by decide +kernel) (AA.cons (AE.errF T.xf_UnknownName T.xn_UnknownName_name hz hf hct (by decide +kernel) hx (List.mem_cons_self ..) (pv 1)) AA.nil)))))) (AHs.named sc__law_met_error.nd rfl rfl ⟨rfl, by decide, .inl T.o_TooMany⟩ (ts := [(Str.ofString "InvalidForm", false), (Str.ofString "InvalidLoop", false), (Str.ofString "InvalidName", false), (Str.ofString "InvalidNumber", false), (Str.ofString "InvalidOperation", false), (Str.ofString "UnknownName", false)]) (by simp only [List.forall_mem_cons, List.not_mem_nil, false_implies, implies_true, and_true]; exact ⟨T.x_InvalidForm_TooMany, T.x_InvalidLoop_TooMany, T.x_InvalidName_TooMany, T.x_InvalidNumber_TooMany, T.x_InvalidOperation_TooMany, T.x_UnknownName_TooMany⟩) (fun y a oe d pn F hz hf hct hx => letI pi : Pins := ⟨(1, .ref a) :: Pins.pv, F⟩; (AB.one (AS.ret (AE.bin OA.add AE.str (AE.blt (CA.reprX T.sysK hr.g hu) (by rfl) T.n_repr (by decide +kernel) (AA.cons (AE.errF T.xf_TooMany T.xn_TooMany_limit hz hf hct (by decide +kernel) hx (List.mem_cons_self ..) (pv 1)) AA.nil)))))) AHs.nil))))))))))
abbrev s_Loop___eq__ : Stmt := inCls (topS 32) 15
theorem sc_Loop___eq__ : FnScope ["self", "other"] ["self", "other"] (defScope s_Loop___eq__) := ⟨rfl, rfl, rfl, by decide +kernel, rfl, by decide +kernel, by decide +kernel⟩
theorem bd_Loop___eq__ (T : Tx P w K mg) : Binds K T.fd32_15 ["self", "other"] [] := T.f32_15.bindsN fun _ _ _ _ _ _ us hl => match us, hl with | [_, _], _ => rfl
theorem ok_Loop___eq__ (T : Tx P w K mg) : FnG P w K mg base 1 T.a32_15 T.fd32_15 ["self", "other"] (PSp K 2 m_Loop___eq__) := by
  refine fn_val (N := ["self", "other"]) T.f32_15 sc_Loop___eq__ rfl fun cdv hcd A outer s H E hr => ?_
  have tk := takes_of (X := cxOf (L2.CX P w) P w K mg base ["self", "other"] "Loop.__eq__" (defScope s_Loop___eq__) T.a32_15 cdv A outer s H E) (E := E) rfl rfl rfl rfl
  have hp := passes_of (X := cxOf (L2.CX P w) P w K mg base ["self", "other"] "Loop.__eq__" (defScope s_Loop___eq__) T.a32_15 cdv A outer s H E) rfl
  have hu := hr.units
  exact (AB.cons (AS.if_ (AW.pt (AW.or (AT.not (AT.val (AE.isiO T.i_Loop (by rfl) T.n_isinstance rfl T.o_Loop (AE.var (pv 1))))) (AW.or1 (AT.cmp (OA.ne hu) (AE.fld (cs := ["Loop"]) (AE.var (pv 0)) (by simp only [List.forall_mem_cons, List.not_mem_nil, false_implies, implies_true, and_true]; exact T.f_Loop_own_names) (by rfl)) (AE.fld (cs := ["Loop"]) (AE.var (pv 1)) (by simp only [List.forall_mem_cons, List.not_mem_nil, false_implies, implies_true, and_true]; exact T.f_Loop_own_names) (by rfl)) (nomark _))))) (AB.one (AS.ret AE.bl)) AB.nil)
    (AB.one (AS.ret (AE.and (AE.cmp (OA.eq hu) (AE.fld (cs := ["Loop"]) (AE.var (pv 0)) (by simp only [List.forall_mem_cons, List.not_mem_nil, false_implies, implies_true, and_true]; exact T.f_Loop_own_steps) (by rfl)) (AE.fld (cs := ["Loop"]) (AE.var (pv 1)) (by simp only [List.forall_mem_cons, List.not_mem_nil, false_implies, implies_true, and_true]; exact T.f_Loop_own_steps) (by rfl)) (nomark _)) (AE.one (AE.cmp (OA.eq hu) (AE.fld (cs := ["Loop"]) (AE.var (pv 0)) (by simp only [List.forall_mem_cons, List.not_mem_nil, false_implies, implies_true, and_true]; exact T.f_Loop_own_tests) (by rfl)) (AE.fld (cs := ["Loop"]) (AE.var (pv 1)) (by simp only [List.forall_mem_cons, List.not_mem_nil, false_implies, implies_true, and_true]; exact T.f_Loop_own_tests) (by rfl)) (nomark _)))))))
abbrev s_require_sign : Stmt := topS 33
theorem sc_require_sign : FnScope ["value"] ["value"] (defScope s_require_sign) := ⟨rfl, rfl, rfl, by decide +kernel, rfl, by decide +kernel, by decide +kernel⟩
theorem bd_require_sign (T : Tx P w K mg) : Binds K T.fd33 ["value"] [] := T.f33.bindsN fun _ _ _ _ _ _ us hl => match us, hl with | [_], _ => rfl
theorem ok_require_sign (T : Tx P w K mg) : FnG P w K mg base 2 T.a33 T.fd33 ["value"] (PSp K 1 m_require_sign) := by
  refine fn_val (N := ["value"]) T.f33 sc_require_sign rfl fun cdv hcd A outer s H E hr => ?_
  have tk := takes_of (X := cxOf (L2.CX P w) P w K mg base ["value"] "require_sign" (defScope s_require_sign) T.a33 cdv A outer s H E) (E := E) rfl rfl rfl rfl
  have hp := passes_of (X := cxOf (L2.CX P w) P w K mg base ["value"] "require_sign" (defScope s_require_sign) T.a33 cdv A outer s H E) rfl
  have hu := hr.units
  exact (AB.one (AS.if_ (AT.not (AT.val (AE.call (ok_is_sign T) (hr.mono (by decide)) (by rfl) T.g27 T.f27.kp (bd_is_sign T) .nil (fun _ _ => .nil) tk (AA.cons (AE.var (pv 0)) AA.nil)))) (AB.one (AS.raise rfl tk T.e_InvalidOperation T.o_InvalidOperation rfl)) AB.nil))
abbrev s_require_form : Stmt := topS 34
theorem sc_require_form : FnScope ["loop", "value"] ["loop", "value"] (defScope s_require_form) := ⟨rfl, rfl, rfl, by decide +kernel, rfl, by decide +kernel, by decide +kernel⟩
theorem bd_require_form (T : Tx P w K mg) : Binds K T.fd34 ["loop", "value"] [] := T.f34.bindsN fun _ _ _ _ _ _ us hl => match us, hl with | [_, _], _ => rfl
theorem ok_require_form (T : Tx P w K mg) : FnG P w K mg base 3 T.a34 T.fd34 ["loop", "value"] (PSp K 2 m_require_form) := by
  refine fn_val (N := ["loop", "value"]) T.f34 sc_require_form rfl fun cdv hcd A outer s H E hr => ?_
  have tk := takes_of (X := cxOf (L2.CX P w) P w K mg base ["loop", "value"] "require_form" (defScope s_require_form) T.a34 cdv A outer s H E) (E := E) rfl rfl rfl rfl
  have hp := passes_of (X := cxOf (L2.CX P w) P w K mg base ["loop", "value"] "require_form" (defScope s_require_form) T.a34 cdv A outer s H E) rfl
  have hu := hr.units
  exact (AB.one (AS.if_ (AT.not (AT.val (AE.call (ok_is_form T) (hr.mono (by decide)) (by rfl) T.g25 T.f25.kp (bd_is_form T) .nil (fun _ _ => .nil) tk (AA.cons (AE.var (pv 1)) (AA.cons (AE.fld (cs := ["Loop"]) (AE.var (pv 0)) (by simp only [List.forall_mem_cons, List.not_mem_nil, false_implies, implies_true, and_true]; exact T.f_Loop_own_width) (by rfl)) AA.nil))))) (AB.one (AS.raise rfl tk T.e_InvalidForm T.o_InvalidForm rfl)) AB.nil))
abbrev s_Loop_with_test : Stmt := inCls (topS 32) 7
theorem sc_Loop_with_test : FnScope ["self", "sign", "form"] ["self", "sign", "form"] (defScope s_Loop_with_test) := ⟨rfl, rfl, rfl, by decide +kernel, rfl, by decide +kernel, by decide +kernel⟩
theorem bd_Loop_with_test (T : Tx P w K mg) : Binds K T.fd32_7 ["self", "sign", "form"] [] := T.f32_7.bindsN fun _ _ _ _ _ _ us hl => match us, hl with | [_, _, _], _ => rfl
theorem ok_Loop_with_test (T : Tx P w K mg) : FnG P w K mg base 8 T.a32_7 T.fd32_7 ["self", "sign", "form"] (PSp K 3 m_Loop_with_test) := by
  refine fn_val (N := ["self", "sign", "form"]) T.f32_7 sc_Loop_with_test rfl fun cdv hcd A outer s H E hr => ?_
  have tk := takes_of (X := cxOf (L2.CX P w) P w K mg base ["self", "sign", "form"] "Loop.with_test" (defScope s_Loop_with_test) T.a32_7 cdv A outer s H E) (E := E) rfl rfl rfl rfl
  have hp := passes_of (X := cxOf (L2.CX P w) P w K mg base ["self", "sign", "form"] "Loop.with_test" (defScope s_Loop_with_test) T.a32_7 cdv A outer s H E) rfl
  have hu := hr.units
  exact (AB.cons (AS.expr (AE.call (ok_require_sign T) (hr.mono (by decide)) (by rfl) T.g33 T.f33.kp (bd_require_sign T) .nil (fun _ _ => .nil) tk (AA.cons (AE.var (pv 1)) AA.nil)))
    (AB.cons (AS.expr (AE.call (ok_require_form T) (hr.mono (by decide)) (by rfl) T.g34 T.f34.kp (bd_require_form T) .nil (fun _ _ => .nil) tk (AA.cons (AE.var (pv 0)) (AA.cons (AE.var (pv 2)) AA.nil))))
    (AB.one (AS.ret (AE.make T.k_Loop (ok_Loop___init__ T) (hr.mono (by decide)) (by rfl) T.o_Loop (bd_Loop___init__ T) .nil (fun _ _ => .nil) tk (AA.cons (AE.fld (cs := ["Loop"]) (AE.var (pv 0)) (by simp only [List.forall_mem_cons, List.not_mem_nil, false_implies, implies_true, and_true]; exact T.f_Loop_own_names) (by rfl)) (AA.cons (AE.fld (cs := ["Loop"]) (AE.var (pv 0)) (by simp only [List.forall_mem_cons, List.not_mem_nil, false_implies, implies_true, and_true]; exact T.f_Loop_own_steps) (by rfl)) (AA.cons (AE.tup (AA.star (AE.fld (cs := ["Loop"]) (AE.var (pv 0)) (by simp only [List.forall_mem_cons, List.not_mem_nil, false_implies, implies_true, and_true]; exact T.f_Loop_own_tests) (by rfl)) (AA.cons (AE.tup (AA.cons (AE.var (pv 1)) (AA.cons (AE.var (pv 2)) AA.nil))) AA.nil))) AA.nil))))))))
abbrev s_Loop_without_test : Stmt := inCls (topS 32) 8
theorem sc_Loop_without_test : FnScope ["self", "index", "tests", "at", "test"] ["self", "index"] (defScope s_Loop_without_test) := ⟨rfl, rfl, rfl, by decide +kernel, rfl, by decide +kernel, by decide +kernel⟩
theorem bd_Loop_without_test (T : Tx P w K mg) : Binds K T.fd32_8 ["self", "index"] [] := T.f32_8.bindsN fun _ _ _ _ _ _ us hl => match us, hl with | [_, _], _ => rfl
theorem ok_Loop_without_test (T : Tx P w K mg) : FnG P w K mg base 8 T.a32_8 T.fd32_8 ["self", "index"] (PSp K 2 m_Loop_without_test) := by
  refine fn_val (N := ["self", "index", "tests", "at", "test"]) T.f32_8 sc_Loop_without_test rfl fun cdv hcd A outer s H E hr => ?_
  have tk := takes_of (X := cxOf (L2.CX P w) P w K mg base ["self", "index", "tests", "at", "test"] "Loop.without_test" (defScope s_Loop_without_test) T.a32_8 cdv A outer s H E) (E := E) rfl rfl rfl rfl
  have hp := passes_of (X := cxOf (L2.CX P w) P w K mg base ["self", "index", "tests", "at", "test"] "Loop.without_test" (defScope s_Loop_without_test) T.a32_8 cdv A outer s H E) rfl
  have hu := hr.units
  exact (AB.cons (AS.if_ (AW.pt (AW.or (AT.not (AT.val (AE.call (ok_is_integer T) (hr.mono (by decide)) (by rfl) T.g4 T.f4.kp (bd_is_integer T) .nil (fun _ _ => .nil) tk (AA.cons (AE.var (pv 1)) AA.nil)))) (AW.or1 (AT.not (AT.chain OA.le OA.lt AE.int (AE.var (pv 1)) (AE.blt CA.len (by rfl) T.n_len PySem.boot_len (AA.cons (AE.fld (cs := ["Loop"]) (AE.var (pv 0)) (by simp only [List.forall_mem_cons, List.not_mem_nil, false_implies, implies_true, and_true]; exact T.f_Loop_own_tests) (by rfl)) AA.nil))))))) (AB.one (AS.raiseI (k := 0) rfl tk T.r_InvalidNumber (hr.mono (by decide)) T.o_InvalidNumber T.n_super rfl (AE.var (pv 1)))) AB.nil)
    (AB.cons (AS.set sc_Loop_without_test.nd rfl (.inl rfl) (AE.bty CA.tuple (by rfl) T.n_tuple (by decide +kernel) (AA.cons (AE.ofN (AN.lc (own := [("at", 3), ("test", 4)]) (t := (.tp [(.sl 3), (.sl 4)])) rfl sc_Loop_without_test.nd (AI.enum (by rfl) T.n_enumerate (AA.cons (AE.fld (cs := ["Loop"]) (AE.var (pv 0)) (by simp only [List.forall_mem_cons, List.not_mem_nil, false_implies, implies_true, and_true]; exact T.f_Loop_own_tests) (by rfl)) AA.nil)) (blkOk_by (N := ["self", "index", "tests", "at", "test"]) (sc := defScope s_Loop_without_test) (by decide +kernel)) (by decide) (fun _ _ _ _ _ => (AG.tup rfl (AGs.cons (AG.name sc_Loop_without_test.nd rfl (by first | exact .inl rfl | exact .inr rfl)) (AGs.cons (AG.name sc_Loop_without_test.nd rfl (by first | exact .inl rfl | exact .inr rfl)) AGs.nil)))) (fun _ _ _ _ _ => (ATs.one (AT.cmp (OA.ne hu) (AE.var (pv 3)) (AE.var (pv 1)) (nomark _)))) (fun _ _ _ _ _ => (AE.var (pv 4))))) AA.nil)))
    (AB.one (AS.ret (AE.make T.k_Loop (ok_Loop___init__ T) (hr.mono (by decide)) (by rfl) T.o_Loop (bd_Loop___init__ T) .nil (fun _ _ => .nil) tk (AA.cons (AE.fld (cs := ["Loop"]) (AE.var (pv 0)) (by simp only [List.forall_mem_cons, List.not_mem_nil, false_implies, implies_true, and_true]; exact T.f_Loop_own_names) (by rfl)) (AA.cons (AE.fld (cs := ["Loop"]) (AE.var (pv 0)) (by simp only [List.forall_mem_cons, List.not_mem_nil, false_implies, implies_true, and_true]; exact T.f_Loop_own_steps) (by rfl)) (AA.cons (AE.var (pv 2)) AA.nil))))))))
abbrev s__law_test_edit : Stmt := topS 48
theorem sc__law_test_edit : FnScope ["_law_bowl_here", "_law_loop", "_law_made", "_law_form", "_law_due", "_law_told", "_law_size", "_law_sign", "_law_one"] ["_law_bowl_here", "_law_loop", "_law_made"] (defScope s__law_test_edit) := ⟨rfl, rfl, rfl, by decide +kernel, rfl, by decide +kernel, by decide +kernel⟩
theorem bd__law_test_edit (T : Tx P w K mg) : Binds K T.fd48 ["_law_bowl_here", "_law_loop", "_law_made"] [] := T.f48.bindsN fun _ _ _ _ _ _ us hl => match us, hl with | [_, _, _], _ => rfl
theorem ok__law_test_edit (T : Tx P w K mg) : FnG P w K mg base 11 T.a48 T.fd48 ["_law_bowl_here", "_law_loop", "_law_made"] (ISp K 2 m__law_test_edit) := by
  refine fn_io (N := ["_law_bowl_here", "_law_loop", "_law_made", "_law_form", "_law_due", "_law_told", "_law_size", "_law_sign", "_law_one"]) T.f48 sc__law_test_edit rfl fun cdv hcd A outer s H E hr => ?_
  have tk := takes_of (X := cxOf (L2.CX P w) P w K mg base ["_law_bowl_here", "_law_loop", "_law_made", "_law_form", "_law_due", "_law_told", "_law_size", "_law_sign", "_law_one"] "_law_test_edit" (defScope s__law_test_edit) T.a48 cdv A outer s H E) (E := E) rfl rfl rfl rfl
  have hp := passes_of (X := cxOf (L2.CX P w) P w K mg base ["_law_bowl_here", "_law_loop", "_law_made", "_law_form", "_law_due", "_law_told", "_law_size", "_law_sign", "_law_one"] "_law_test_edit" (defScope s__law_test_edit) T.a48 cdv A outer s H E) rfl
  have hu := hr.units
  exact (AB.cons (AS.asg (AE.tup (AA.cons (AE.blt CA.len (by rfl) T.n_len PySem.boot_len (AA.cons (AE.dget hu (AE.var (pv 1)) AE.str (fun _ _ => rfl)) AA.nil)) (AA.cons (AE.callIo (ok__law_pick T) (hr.mono (by decide)) (by rfl) T.g39 T.f39.kp (bd__law_pick T) tk (pv 0) (AA.cons (AE.lst (AA.cons AE.str (AA.cons AE.str AA.nil))) AA.nil)) AA.nil))) (AG.tup rfl (AGs.cons (AG.name sc__law_test_edit.nd rfl (.inl rfl)) (AGs.cons (AG.name sc__law_test_edit.nd rfl (.inr rfl)) AGs.nil))))
    (AB.cons (AS.set sc__law_test_edit.nd rfl (.inr rfl) (AE.callIo (ok__law_line T) (hr.mono (by decide)) (by rfl) T.g42 T.f42.kp (bd__law_line T) tk (pv 0) (AA.cons (AE.bin OA.add (AE.var (pv 6)) AE.int) (AA.cons (AE.callIo (ok__law_pick T) (hr.mono (by decide)) (by rfl) T.g39 T.f39.kp (bd__law_pick T) tk (pv 0) (AA.cons (AE.lst (AA.cons AE.int (AA.cons AE.int (AA.cons AE.int (AA.cons AE.int AA.nil))))) AA.nil)) AA.nil))))
    (AB.cons (AS.set sc__law_test_edit.nd rfl (.inl rfl) (AE.call (ok__law_other T) (hr.mono (by decide)) (by rfl) T.g47 T.f47.kp (bd__law_other T) .nil (fun _ _ => .nil) tk (AA.cons (AE.var (pv 1)) (AA.cons AE.str (AA.cons (AE.bin OA.add (AE.dget hu (AE.var (pv 1)) AE.str (fun _ _ => rfl)) (AE.tup (AA.cons (AE.tup (AA.cons (AE.var (pv 7)) (AA.cons (AE.var (pv 3)) AA.nil))) AA.nil))) AA.nil)))))
    (AB.cons (AS.if_ (AW.pt (AW.or (AT.cmp (OA.eq hu) (AE.blt CA.len (by rfl) T.n_len PySem.boot_len (AA.cons (AE.dget hu (AE.var (pv 1)) AE.str (fun _ _ => rfl)) AA.nil)) AE.int (nomark _)) (AW.or1 (AT.cmp OA.gt (AE.blt (CA.maxL rfl) (by rfl) T.n_max (by decide +kernel) (AA.cons (AE.ofN (AN.lc (own := [("_law_one", 8)]) (t := (.sl 8)) rfl sc__law_test_edit.nd (AI.any (AE.var (pv 3))) (blkOk_by (N := ["_law_bowl_here", "_law_loop", "_law_made", "_law_form", "_law_due", "_law_told", "_law_size", "_law_sign", "_law_one"]) (sc := defScope s__law_test_edit) (by decide +kernel)) (by decide) (fun _ _ _ _ _ => (AG.name sc__law_test_edit.nd rfl (by first | exact .inl rfl | exact .inr rfl))) (fun _ _ _ _ _ => ATs.nil) (fun _ _ _ _ _ => (AE.blt CA.abs (by rfl) T.n_abs (by decide +kernel) (AA.cons (AE.var (pv 8)) AA.nil))))) AA.nil)) AE.int (nomark _))))) (AB.one (AS.set sc__law_test_edit.nd rfl (.inl rfl) AE.str)) AB.nil)
    (AB.cons (AS.set sc__law_test_edit.nd rfl (.inl rfl) (AE.lam (kb := 8) (k := 0) (kk := 8) T.f45 (th__law_met_error T) sc__law_met_error rfl (.inl rfl) (bd__law_met_error T) (by rfl) T.g45 T.l_48 hcd.symm rfl (hr.mono (by decide)) (by decide) (by decide) (LamX.lamS_by (sc := defScope s__law_test_edit) (by decide +kernel)) rfl (fun _ _ _ _ _ => rfl) (fun A outer s H E f c hr => have hu := hr.units; (AE.meth (cs := [(Str.ofString "Loop", m_Loop_with_test)]) (k := 8) (n := 3) (AE.var (pv 2)) (by simp only [List.forall_mem_cons, List.not_mem_nil, false_implies, implies_true, and_true]; exact ⟨T.cl_Loop, _, _, _, T.m_Loop_with_test, (ok_Loop_with_test T).mono (by decide), bd_Loop_with_test T⟩) (hr.mono (by decide)) (takes_of rfl rfl rfl rfl) (AA.cons (AE.var (pv 7)) (AA.cons (AE.var (pv 3)) AA.nil))))))
    (AB.cons (AS.if_ (AW.pt (AW.and (AT.not (AT.val (AE.blt CA.isi (by rfl) T.n_isinstance (by decide +kernel) (AA.cons (AE.var (pv 4)) (AA.cons (AE.ty (T := "str") (by rfl) T.n_str (by decide +kernel)) AA.nil))))) (AW.and (AT.val (AE.isiO T.i_Loop (by rfl) T.n_isinstance rfl T.o_Loop (AE.var (pv 5)))) (AW.and1 (AT.cmp (OA.neW hu T.q_Loop T.m_Loop___eq__ (ok_Loop___eq__ T) (hr.mono (by decide)) (bd_Loop___eq__ T)) (AE.meth (cs := [(Str.ofString "Loop", m_Loop_without_test)]) (k := 8) (n := 2) (AE.var (pv 5)) (by simp only [List.forall_mem_cons, List.not_mem_nil, false_implies, implies_true, and_true]; exact ⟨T.cl_Loop, _, _, _, T.m_Loop_without_test, (ok_Loop_without_test T).mono (by decide), bd_Loop_without_test T⟩) (hr.mono (by decide)) tk (AA.cons (AE.blt CA.len (by rfl) T.n_len PySem.boot_len (AA.cons (AE.dget hu (AE.var (pv 1)) AE.str (fun _ _ => rfl)) AA.nil)) AA.nil)) (AE.var (pv 2)) (nomark _)))))) (AB.one (AS.ret (AE.lst (AA.cons (AE.var (pv 4)) (AA.cons AE.str AA.nil))))) AB.nil)
    (AB.one (AS.ret (AE.lst (AA.cons (AE.var (pv 4)) (AA.cons (AE.var (pv 5)) AA.nil)))))))))))
abbrev s__law_less_edit : Stmt := topS 49
theorem sc__law_less_edit : FnScope ["_law_bowl_here", "_law_loop", "_law_made", "_law_size", "_law_at", "_law_due", "_law_less"] ["_law_bowl_here", "_law_loop", "_law_made"] (defScope s__law_less_edit) := ⟨rfl, rfl, rfl, by decide +kernel, rfl, by decide +kernel, by decide +kernel⟩
theorem bd__law_less_edit (T : Tx P w K mg) : Binds K T.fd49 ["_law_bowl_here", "_law_loop", "_law_made"] [] := T.f49.bindsN fun _ _ _ _ _ _ us hl => match us, hl with | [_, _, _], _ => rfl
theorem ok__law_less_edit (T : Tx P w K mg) : FnG P w K mg base 11 T.a49 T.fd49 ["_law_bowl_here", "_law_loop", "_law_made"] (ISp K 2 m__law_less_edit) := by
  refine fn_io (N := ["_law_bowl_here", "_law_loop", "_law_made", "_law_size", "_law_at", "_law_due", "_law_less"]) T.f49 sc__law_less_edit rfl fun cdv hcd A outer s H E hr => ?_
  have tk := takes_of (X := cxOf (L2.CX P w) P w K mg base ["_law_bowl_here", "_law_loop", "_law_made", "_law_size", "_law_at", "_law_due", "_law_less"] "_law_less_edit" (defScope s__law_less_edit) T.a49 cdv A outer s H E) (E := E) rfl rfl rfl rfl
  have hp := passes_of (X := cxOf (L2.CX P w) P w K mg base ["_law_bowl_here", "_law_loop", "_law_made", "_law_size", "_law_at", "_law_due", "_law_less"] "_law_less_edit" (defScope s__law_less_edit) T.a49 cdv A outer s H E) rfl
  have hu := hr.units
  exact (AB.cons (AS.set sc__law_less_edit.nd rfl (.inl rfl) (AE.blt CA.len (by rfl) T.n_len PySem.boot_len (AA.cons (AE.dget hu (AE.var (pv 1)) AE.str (fun _ _ => rfl)) AA.nil)))
    (AB.cons (AS.set sc__law_less_edit.nd rfl (.inr rfl) (AE.callIo (ok__law_pick T) (hr.mono (by decide)) (by rfl) T.g39 T.f39.kp (bd__law_pick T) tk (pv 0) (AA.cons (AE.bin OA.add (AE.bin OA.mul (AE.listRg rfl (by rfl) T.n_list (by rfl) T.n_range (AE.var (pv 3))) AE.int) (AE.lst (AA.cons (AE.var (pv 3)) (AA.cons (AE.un UA.neg AE.int) (AA.cons AE.non (AA.cons AE.bl (AA.cons AE.str AA.nil))))))) AA.nil)))
    (AB.cons (AS.if_ (AW.pt (AW.or (AT.not (AT.val (AE.blt CA.isi (by rfl) T.n_isinstance (by decide +kernel) (AA.cons (AE.var (pv 4)) (AA.cons (AE.ty (T := "int") (by rfl) T.n_int (by decide +kernel)) AA.nil))))) (AW.or (AT.val (AE.blt CA.isi (by rfl) T.n_isinstance (by decide +kernel) (AA.cons (AE.var (pv 4)) (AA.cons (AE.ty (T := "bool") (by rfl) T.n_bool (by decide +kernel)) AA.nil)))) (AW.or (AT.cmp OA.lt (AE.var (pv 4)) AE.int (nomark _)) (AW.or1 (AT.cmp OA.ge (AE.var (pv 4)) (AE.var (pv 3)) (nomark _))))))) (AB.one (AS.set sc__law_less_edit.nd rfl (.inl rfl) (AE.bin OA.add AE.str (AE.blt (CA.reprX T.sysK hr.g hu) (by rfl) T.n_repr (by decide +kernel) (AA.cons (AE.var (pv 4)) AA.nil))))) (AB.cons (AS.set sc__law_less_edit.nd rfl (.inl rfl) (AE.bin OA.add (AE.slice (AE.dget hu (AE.var (pv 1)) AE.str (fun _ _ => rfl)) AO.none (AO.some (AE.var (pv 4)))) (AE.slice (AE.dget hu (AE.var (pv 1)) AE.str (fun _ _ => rfl)) (AO.some (AE.bin OA.add (AE.var (pv 4)) AE.int)) AO.none)))
    (AB.one (AS.set sc__law_less_edit.nd rfl (.inl rfl) (AE.ifx (AT.cmp OA.gt (AE.var (pv 3)) AE.int (nomark _)) (AE.call (ok__law_other T) (hr.mono (by decide)) (by rfl) T.g47 T.f47.kp (bd__law_other T) .nil (fun _ _ => .nil) tk (AA.cons (AE.var (pv 1)) (AA.cons AE.str (AA.cons (AE.var (pv 6)) AA.nil)))) AE.str)))))
    (AB.one (AS.ret (AE.lst (AA.cons (AE.var (pv 5)) (AA.cons (AE.lam (kb := 8) (k := 0) (kk := 8) T.f45 (th__law_met_error T) sc__law_met_error rfl (.inl rfl) (bd__law_met_error T) (by rfl) T.g45 T.l_49 hcd.symm rfl (hr.mono (by decide)) (by decide) (by decide) (LamX.lamS_by (sc := defScope s__law_less_edit) (by decide +kernel)) rfl (fun _ _ _ _ _ => rfl) (fun A outer s H E f c hr => have hu := hr.units; (AE.meth (cs := [(Str.ofString "Loop", m_Loop_without_test)]) (k := 8) (n := 2) (AE.var (pv 2)) (by simp only [List.forall_mem_cons, List.not_mem_nil, false_implies, implies_true, and_true]; exact ⟨T.cl_Loop, _, _, _, T.m_Loop_without_test, (ok_Loop_without_test T).mono (by decide), bd_Loop_without_test T⟩) (hr.mono (by decide)) (takes_of rfl rfl rfl rfl) (AA.cons (AE.var (pv 4)) AA.nil)))) AA.nil))))))))
abbrev s_require_name : Stmt := topS 35
theorem sc_require_name : FnScope ["loop", "value"] ["loop", "value"] (defScope s_require_name) := ⟨rfl, rfl, rfl, by decide +kernel, rfl, by decide +kernel, by decide +kernel⟩
theorem bd_require_name (T : Tx P w K mg) : Binds K T.fd35 ["loop", "value"] [] := T.f35.bindsN fun _ _ _ _ _ _ us hl => match us, hl with | [_, _], _ => rfl
theorem ok_require_name (T : Tx P w K mg) : FnG P w K mg base 2 T.a35 T.fd35 ["loop", "value"] (PSp K 2 m_require_name) := by
  refine fn_val (N := ["loop", "value"]) T.f35 sc_require_name rfl fun cdv hcd A outer s H E hr => ?_
  have tk := takes_of (X := cxOf (L2.CX P w) P w K mg base ["loop", "value"] "require_name" (defScope s_require_name) T.a35 cdv A outer s H E) (E := E) rfl rfl rfl rfl
  have hp := passes_of (X := cxOf (L2.CX P w) P w K mg base ["loop", "value"] "require_name" (defScope s_require_name) T.a35 cdv A outer s H E) rfl
  have hu := hr.units
  exact (AB.one (AS.if_ (AW.pt (AW.or (AT.not (AT.val (AE.blt CA.isi (by rfl) T.n_isinstance (by decide +kernel) (AA.cons (AE.var (pv 1)) (AA.cons (AE.ty (T := "str") (by rfl) T.n_str (by decide +kernel)) AA.nil))))) (AW.or1 (AT.cmp (OA.notIn hu) (AE.var (pv 1)) (AE.fld (cs := ["Loop"]) (AE.var (pv 0)) (by simp only [List.forall_mem_cons, List.not_mem_nil, false_implies, implies_true, and_true]; exact T.f_Loop_own_names) (by rfl)) rfl)))) (AB.one (AS.raiseI (k := 0) rfl tk T.r_UnknownName (hr.mono (by decide)) T.o_UnknownName T.n_super rfl (AE.var (pv 1)))) AB.nil))
abbrev s_Loop_with_step : Stmt := inCls (topS 32) 9
theorem sc_Loop_with_step : FnScope ["self", "name", "form", "steps", "other", "step"] ["self", "name", "form"] (defScope s_Loop_with_step) := ⟨rfl, rfl, rfl, by decide +kernel, rfl, by decide +kernel, by decide +kernel⟩
theorem bd_Loop_with_step (T : Tx P w K mg) : Binds K T.fd32_9 ["self", "name", "form"] [] := T.f32_9.bindsN fun _ _ _ _ _ _ us hl => match us, hl with | [_, _, _], _ => rfl
theorem ok_Loop_with_step (T : Tx P w K mg) : FnG P w K mg base 8 T.a32_9 T.fd32_9 ["self", "name", "form"] (PSp K 3 m_Loop_with_step) := by
  refine fn_val (N := ["self", "name", "form", "steps", "other", "step"]) T.f32_9 sc_Loop_with_step rfl fun cdv hcd A outer s H E hr => ?_
  have tk := takes_of (X := cxOf (L2.CX P w) P w K mg base ["self", "name", "form", "steps", "other", "step"] "Loop.with_step" (defScope s_Loop_with_step) T.a32_9 cdv A outer s H E) (E := E) rfl rfl rfl rfl
  have hp := passes_of (X := cxOf (L2.CX P w) P w K mg base ["self", "name", "form", "steps", "other", "step"] "Loop.with_step" (defScope s_Loop_with_step) T.a32_9 cdv A outer s H E) rfl
  have hu := hr.units
  exact (AB.cons (AS.expr (AE.call (ok_require_name T) (hr.mono (by decide)) (by rfl) T.g35 T.f35.kp (bd_require_name T) .nil (fun _ _ => .nil) tk (AA.cons (AE.var (pv 0)) (AA.cons (AE.var (pv 1)) AA.nil))))
    (AB.cons (AS.expr (AE.call (ok_require_form T) (hr.mono (by decide)) (by rfl) T.g34 T.f34.kp (bd_require_form T) .nil (fun _ _ => .nil) tk (AA.cons (AE.var (pv 0)) (AA.cons (AE.var (pv 2)) AA.nil))))
    (AB.cons (AS.setLc (own := [("other", 4), ("step", 5)]) (t := (.tp [(.sl 4), (.sl 5)])) rfl sc_Loop_with_step.nd rfl rfl (sw_true rfl rfl rfl (by decide +kernel)) (AI.zipM (by rfl) T.n_zip (AA.cons (AE.fld (cs := ["Loop"]) (AE.var (pv 0)) (by simp only [List.forall_mem_cons, List.not_mem_nil, false_implies, implies_true, and_true]; exact T.f_Loop_own_names) (by rfl)) (AA.cons (AE.fld (cs := ["Loop"]) (AE.var (pv 0)) (by simp only [List.forall_mem_cons, List.not_mem_nil, false_implies, implies_true, and_true]; exact T.f_Loop_own_steps) (by rfl)) AA.nil))) (blkOk_by (N := ["self", "name", "form", "steps", "other", "step"]) (sc := defScope s_Loop_with_step) (by decide +kernel)) (by decide) (fun _ _ _ _ _ => (AG.tup rfl (AGs.cons (AG.name sc_Loop_with_step.nd rfl (by first | exact .inl rfl | exact .inr rfl)) (AGs.cons (AG.name sc_Loop_with_step.nd rfl (by first | exact .inl rfl | exact .inr rfl)) AGs.nil)))) (fun _ _ _ _ _ => ATs.nil) (fun _ _ _ _ _ => (AE.ifx (AT.cmp (OA.eq hu) (AE.var (pv 4)) (AE.var (pv 1)) (nomark _)) (AE.var (pv 2)) (AE.var (pv 5)))))
    (AB.one (AS.ret (AE.make T.k_Loop (ok_Loop___init__ T) (hr.mono (by decide)) (by rfl) T.o_Loop (bd_Loop___init__ T) .nil (fun _ _ => .nil) tk (AA.cons (AE.fld (cs := ["Loop"]) (AE.var (pv 0)) (by simp only [List.forall_mem_cons, List.not_mem_nil, false_implies, implies_true, and_true]; exact T.f_Loop_own_names) (by rfl)) (AA.cons (AE.bty CA.tuple (by rfl) T.n_tuple (by decide +kernel) (AA.cons (AE.var (pv 3)) AA.nil)) (AA.cons (AE.fld (cs := ["Loop"]) (AE.var (pv 0)) (by simp only [List.forall_mem_cons, List.not_mem_nil, false_implies, implies_true, and_true]; exact T.f_Loop_own_tests) (by rfl)) AA.nil)))))))))
abbrev s__law_step_edit : Stmt := topS 50
theorem sc__law_step_edit : FnScope ["_law_bowl_here", "_law_loop", "_law_made", "_law_size", "_law_move", "_law_due", "_law_told", "_law_back", "_law_at", "_law_own"] ["_law_bowl_here", "_law_loop", "_law_made"] (defScope s__law_step_edit) := ⟨rfl, rfl, rfl, by decide +kernel, rfl, by decide +kernel, by decide +kernel⟩
theorem bd__law_step_edit (T : Tx P w K mg) : Binds K T.fd50 ["_law_bowl_here", "_law_loop", "_law_made"] [] := T.f50.bindsN fun _ _ _ _ _ _ us hl => match us, hl with | [_, _, _], _ => rfl
theorem ok__law_step_edit (T : Tx P w K mg) : FnG P w K mg base 11 T.a50 T.fd50 ["_law_bowl_here", "_law_loop", "_law_made"] (ISp K 2 m__law_step_edit) := by
  refine fn_io (N := ["_law_bowl_here", "_law_loop", "_law_made", "_law_size", "_law_move", "_law_due", "_law_told", "_law_back", "_law_at", "_law_own"]) T.f50 sc__law_step_edit rfl fun cdv hcd A outer s H E hr => ?_
  have tk := takes_of (X := cxOf (L2.CX P w) P w K mg base ["_law_bowl_here", "_law_loop", "_law_made", "_law_size", "_law_move", "_law_due", "_law_told", "_law_back", "_law_at", "_law_own"] "_law_step_edit" (defScope s__law_step_edit) T.a50 cdv A outer s H E) (E := E) rfl rfl rfl rfl
  have hp := passes_of (X := cxOf (L2.CX P w) P w K mg base ["_law_bowl_here", "_law_loop", "_law_made", "_law_size", "_law_move", "_law_due", "_law_told", "_law_back", "_law_at", "_law_own"] "_law_step_edit" (defScope s__law_step_edit) T.a50 cdv A outer s H E) rfl
  have hu := hr.units
  exact (AB.cons (AS.set sc__law_step_edit.nd rfl (.inl rfl) (AE.blt CA.len (by rfl) T.n_len PySem.boot_len (AA.cons (AE.dget hu (AE.var (pv 1)) AE.str (fun _ _ => rfl)) AA.nil)))
    (AB.cons (AS.asg (AE.tup (AA.cons (AE.callIo (ok__law_bit T) (hr.mono (by decide)) (by rfl) T.g38 T.f38.kp (bd__law_bit T) tk (pv 0) (AA.cons (AE.var (pv 3)) AA.nil)) (AA.cons (AE.callIo (ok__law_pick T) (hr.mono (by decide)) (by rfl) T.g39 T.f39.kp (bd__law_pick T) tk (pv 0) (AA.cons (AE.lst (AA.cons AE.int (AA.cons AE.int (AA.cons (AE.un UA.neg AE.int) (AA.cons AE.int (AA.cons (AE.un UA.neg AE.int) (AA.cons AE.int AA.nil))))))) AA.nil)) AA.nil))) (AG.tup rfl (AGs.cons (AG.name sc__law_step_edit.nd rfl (.inr rfl)) (AGs.cons (AG.name sc__law_step_edit.nd rfl (.inl rfl)) AGs.nil))))
    (AB.cons (AS.set sc__law_step_edit.nd rfl (.inr rfl) (AE.bin OA.add (AE.bin OA.add (AE.callIo (ok__law_line T) (hr.mono (by decide)) (by rfl) T.g42 T.f42.kp (bd__law_line T) tk (pv 0) (AA.cons (AE.bin OA.add (AE.var (pv 8)) AE.int) (AA.cons AE.int AA.nil))) (AE.tup (AA.cons (AE.var (pv 9)) AA.nil))) (AE.bin OA.mul (AE.tup (AA.cons AE.int AA.nil)) (AE.bin OA.sub (AE.bin OA.sub (AE.var (pv 3)) (AE.var (pv 8))) AE.int))))
    (AB.cons (AS.if_ (AW.pt (AW.and (AT.cmp OA.lt (AE.var (pv 8)) (AE.bin OA.sub (AE.var (pv 3)) AE.int) (nomark _)) (AW.and1 (AT.cmp (OA.eq hu) (AE.callIo (ok__law_bit T) (hr.mono (by decide)) (by rfl) T.g38 T.f38.kp (bd__law_bit T) tk (pv 0) (AA.cons AE.int AA.nil)) AE.int (nomark _))))) (AB.one (AS.set sc__law_step_edit.nd rfl (.inr rfl) (AE.bin OA.add (AE.slice (AE.var (pv 4)) AO.none (AO.some (AE.un UA.neg AE.int))) (AE.tup (AA.cons AE.int AA.nil))))) AB.nil)
    (AB.cons (AS.set sc__law_step_edit.nd rfl (.inl rfl) (AE.call (ok__law_other T) (hr.mono (by decide)) (by rfl) T.g47 T.f47.kp (bd__law_other T) .nil (fun _ _ => .nil) tk (AA.cons (AE.var (pv 1)) (AA.cons AE.str (AA.cons (AE.bin OA.add (AE.bin OA.add (AE.slice (AE.dget hu (AE.var (pv 1)) AE.str (fun _ _ => rfl)) AO.none (AO.some (AE.var (pv 8)))) (AE.tup (AA.cons (AE.var (pv 4)) AA.nil))) (AE.slice (AE.dget hu (AE.var (pv 1)) AE.str (fun _ _ => rfl)) (AO.some (AE.bin OA.add (AE.var (pv 8)) AE.int)) AO.none)) AA.nil)))))
    (AB.cons (AS.if_ (AW.pt (AW.or (AT.cmp OA.gt (AE.blt CA.abs (by rfl) T.n_abs (by decide +kernel) (AA.cons (AE.var (pv 9)) AA.nil)) AE.int (nomark _)) (AW.or1 (AT.cmp (OA.ne hu) (AE.slice (AE.var (pv 4)) (AO.some (AE.bin OA.add (AE.var (pv 8)) AE.int)) AO.none) (AE.bin OA.mul (AE.tup (AA.cons AE.int AA.nil)) (AE.bin OA.sub (AE.bin OA.sub (AE.var (pv 3)) (AE.var (pv 8))) AE.int)) (nomark _))))) (AB.one (AS.set sc__law_step_edit.nd rfl (.inl rfl) AE.str)) AB.nil)
    (AB.cons (AS.set sc__law_step_edit.nd rfl (.inl rfl) (AE.lam (kb := 8) (k := 0) (kk := 8) T.f45 (th__law_met_error T) sc__law_met_error rfl (.inl rfl) (bd__law_met_error T) (by rfl) T.g45 T.l_50 hcd.symm rfl (hr.mono (by decide)) (by decide) (by decide) (LamX.lamS_by (sc := defScope s__law_step_edit) (by decide +kernel)) rfl (fun _ _ _ _ _ => rfl) (fun A outer s H E f c hr => have hu := hr.units; (AE.meth (cs := [(Str.ofString "Loop", m_Loop_with_step)]) (k := 8) (n := 3) (AE.var (pv 2)) (by simp only [List.forall_mem_cons, List.not_mem_nil, false_implies, implies_true, and_true]; exact ⟨T.cl_Loop, _, _, _, T.m_Loop_with_step, (ok_Loop_with_step T).mono (by decide), bd_Loop_with_step T⟩) (hr.mono (by decide)) (takes_of rfl rfl rfl rfl) (AA.cons (AE.ix (AE.dget hu (AE.var (pv 1)) AE.str (fun _ _ => rfl)) (AE.var (pv 8))) (AA.cons (AE.var (pv 4)) AA.nil))))))
    (AB.cons (AS.set sc__law_step_edit.nd rfl (.inl rfl) (AE.ifx (AT.val (AE.isiO T.i_Loop (by rfl) T.n_isinstance rfl T.o_Loop (AE.var (pv 6)))) (AE.meth (cs := [(Str.ofString "Loop", m_Loop_with_step)]) (k := 8) (n := 3) (AE.var (pv 6)) (by simp only [List.forall_mem_cons, List.not_mem_nil, false_implies, implies_true, and_true]; exact ⟨T.cl_Loop, _, _, _, T.m_Loop_with_step, (ok_Loop_with_step T).mono (by decide), bd_Loop_with_step T⟩) (hr.mono (by decide)) tk (AA.cons (AE.ix (AE.dget hu (AE.var (pv 1)) AE.str (fun _ _ => rfl)) (AE.var (pv 8))) (AA.cons (AE.ix (AE.dget hu (AE.var (pv 1)) AE.str (fun _ _ => rfl)) (AE.var (pv 8))) AA.nil))) (AE.var (pv 2))))
    (AB.cons (AS.if_ (AW.pt (AW.and (AT.not (AT.val (AE.blt CA.isi (by rfl) T.n_isinstance (by decide +kernel) (AA.cons (AE.var (pv 5)) (AA.cons (AE.ty (T := "str") (by rfl) T.n_str (by decide +kernel)) AA.nil))))) (AW.and1 (AT.cmp (OA.neW hu T.q_Loop T.m_Loop___eq__ (ok_Loop___eq__ T) (hr.mono (by decide)) (bd_Loop___eq__ T)) (AE.var (pv 7)) (AE.var (pv 2)) (nomark _))))) (AB.one (AS.ret (AE.lst (AA.cons (AE.var (pv 5)) (AA.cons AE.str AA.nil))))) AB.nil)
    (AB.one (AS.ret (AE.lst (AA.cons (AE.var (pv 5)) (AA.cons (AE.var (pv 6)) AA.nil))))))))))))))
abbrev s_Loop___contains__ : Stmt := inCls (topS 32) 12
theorem sc_Loop___contains__ : FnScope ["self", "value"] ["self", "value"] (defScope s_Loop___contains__) := ⟨rfl, rfl, rfl, by decide +kernel, rfl, by decide +kernel, by decide +kernel⟩
theorem bd_Loop___contains__ (T : Tx P w K mg) : Binds K T.fd32_12 ["self", "value"] [] := T.f32_12.bindsN fun _ _ _ _ _ _ us hl => match us, hl with | [_, _], _ => rfl
theorem ok_Loop___contains__ (T : Tx P w K mg) : FnG P w K mg base 1 T.a32_12 T.fd32_12 ["self", "value"] (PSp K 2 m_Loop___contains__) := by
  refine fn_val (N := ["self", "value"]) T.f32_12 sc_Loop___contains__ rfl fun cdv hcd A outer s H E hr => ?_
  have tk := takes_of (X := cxOf (L2.CX P w) P w K mg base ["self", "value"] "Loop.__contains__" (defScope s_Loop___contains__) T.a32_12 cdv A outer s H E) (E := E) rfl rfl rfl rfl
  have hp := passes_of (X := cxOf (L2.CX P w) P w K mg base ["self", "value"] "Loop.__contains__" (defScope s_Loop___contains__) T.a32_12 cdv A outer s H E) rfl
  have hu := hr.units
  exact (AB.one (AS.ret (AE.and (AE.blt CA.isi (by rfl) T.n_isinstance (by decide +kernel) (AA.cons (AE.var (pv 1)) (AA.cons (AE.ty (T := "str") (by rfl) T.n_str (by decide +kernel)) AA.nil))) (AE.one (AE.cmp (OA.in_ hu) (AE.var (pv 1)) (AE.fld (cs := ["Loop"]) (AE.var (pv 0)) (by simp only [List.forall_mem_cons, List.not_mem_nil, false_implies, implies_true, and_true]; exact T.f_Loop_own_names) (by rfl)) rfl)))))
abbrev s_Loop_renamed : Stmt := inCls (topS 32) 10
theorem sc_Loop_renamed : FnScope ["self", "names"] ["self", "names"] (defScope s_Loop_renamed) := ⟨rfl, rfl, rfl, by decide +kernel, rfl, by decide +kernel, by decide +kernel⟩
theorem bd_Loop_renamed (T : Tx P w K mg) : Binds K T.fd32_10 ["self", "names"] [] := T.f32_10.bindsN fun _ _ _ _ _ _ us hl => match us, hl with | [_, _], _ => rfl
theorem ok_Loop_renamed (T : Tx P w K mg) : FnG P w K mg base 8 T.a32_10 T.fd32_10 ["self", "names"] (PSp K 2 m_Loop_renamed) := by
  refine fn_val (N := ["self", "names"]) T.f32_10 sc_Loop_renamed rfl fun cdv hcd A outer s H E hr => ?_
  have tk := takes_of (X := cxOf (L2.CX P w) P w K mg base ["self", "names"] "Loop.renamed" (defScope s_Loop_renamed) T.a32_10 cdv A outer s H E) (E := E) rfl rfl rfl rfl
  have hp := passes_of (X := cxOf (L2.CX P w) P w K mg base ["self", "names"] "Loop.renamed" (defScope s_Loop_renamed) T.a32_10 cdv A outer s H E) rfl
  have hu := hr.units
  exact (AB.cons (AS.if_ (AT.not (AT.val (AE.call (ok_is_names T) (hr.mono (by decide)) (by rfl) T.g6 T.f6.kp (bd_is_names T) .nil (fun _ _ => .nil) tk (AA.cons (AE.var (pv 1)) AA.nil)))) (AB.one (AS.raise rfl tk T.e_InvalidName T.o_InvalidName rfl)) AB.nil)
    (AB.cons (AS.if_ (AT.cmp (OA.ne hu) (AE.blt CA.len (by rfl) T.n_len PySem.boot_len (AA.cons (AE.var (pv 1)) AA.nil)) (AE.blt CA.len (by rfl) T.n_len PySem.boot_len (AA.cons (AE.fld (cs := ["Loop"]) (AE.var (pv 0)) (by simp only [List.forall_mem_cons, List.not_mem_nil, false_implies, implies_true, and_true]; exact T.f_Loop_own_names) (by rfl)) AA.nil)) (nomark _)) (AB.one (AS.raise rfl tk T.e_InvalidOperation T.o_InvalidOperation rfl)) AB.nil)
    (AB.one (AS.ret (AE.make T.k_Loop (ok_Loop___init__ T) (hr.mono (by decide)) (by rfl) T.o_Loop (bd_Loop___init__ T) .nil (fun _ _ => .nil) tk (AA.cons (AE.var (pv 1)) (AA.cons (AE.fld (cs := ["Loop"]) (AE.var (pv 0)) (by simp only [List.forall_mem_cons, List.not_mem_nil, false_implies, implies_true, and_true]; exact T.f_Loop_own_steps) (by rfl)) (AA.cons (AE.fld (cs := ["Loop"]) (AE.var (pv 0)) (by simp only [List.forall_mem_cons, List.not_mem_nil, false_implies, implies_true, and_true]; exact T.f_Loop_own_tests) (by rfl)) AA.nil))))))))
abbrev s__law_name_edit : Stmt := topS 51
theorem sc__law_name_edit : FnScope ["_law_bowl_here", "_law_loop", "_law_made", "_law_size", "_law_spare", "_law_words", "_law_odd", "_law_told", "_law_due", "_law_word"] ["_law_bowl_here", "_law_loop", "_law_made"] (defScope s__law_name_edit) := ⟨rfl, rfl, rfl, by decide +kernel, rfl, by decide +kernel, by decide +kernel⟩
theorem bd__law_name_edit (T : Tx P w K mg) : Binds K T.fd51 ["_law_bowl_here", "_law_loop", "_law_made"] [] := T.f51.bindsN fun _ _ _ _ _ _ us hl => match us, hl with | [_, _, _], _ => rfl
theorem ok__law_name_edit (T : Tx P w K mg) : FnG P w K mg base 11 T.a51 T.fd51 ["_law_bowl_here", "_law_loop", "_law_made"] (ISp K 2 m__law_name_edit) := by
  refine fn_io (N := ["_law_bowl_here", "_law_loop", "_law_made", "_law_size", "_law_spare", "_law_words", "_law_odd", "_law_told", "_law_due", "_law_word"]) T.f51 sc__law_name_edit rfl fun cdv hcd A outer s H E hr => ?_
  have tk := takes_of (X := cxOf (L2.CX P w) P w K mg base ["_law_bowl_here", "_law_loop", "_law_made", "_law_size", "_law_spare", "_law_words", "_law_odd", "_law_told", "_law_due", "_law_word"] "_law_name_edit" (defScope s__law_name_edit) T.a51 cdv A outer s H E) (E := E) rfl rfl rfl rfl
  have hp := passes_of (X := cxOf (L2.CX P w) P w K mg base ["_law_bowl_here", "_law_loop", "_law_made", "_law_size", "_law_spare", "_law_words", "_law_odd", "_law_told", "_law_due", "_law_word"] "_law_name_edit" (defScope s__law_name_edit) T.a51 cdv A outer s H E) rfl
  have hu := hr.units
  exact (AB.cons (AS.set sc__law_name_edit.nd rfl (.inl rfl) (AE.blt CA.len (by rfl) T.n_len PySem.boot_len (AA.cons (AE.dget hu (AE.var (pv 1)) AE.str (fun _ _ => rfl)) AA.nil)))
    (AB.cons (AS.setLc (own := [("_law_word", 9)]) (t := (.sl 9)) rfl sc__law_name_edit.nd rfl rfl (sw_true rfl rfl rfl (by decide +kernel)) (AI.any (AE.lst (AA.cons AE.str (AA.cons AE.str (AA.cons AE.str (AA.cons AE.str (AA.cons AE.str AA.nil))))))) (blkOk_by (N := ["_law_bowl_here", "_law_loop", "_law_made", "_law_size", "_law_spare", "_law_words", "_law_odd", "_law_told", "_law_due", "_law_word"]) (sc := defScope s__law_name_edit) (by decide +kernel)) (by decide) (fun _ _ _ _ _ => (AG.name sc__law_name_edit.nd rfl (by first | exact .inl rfl | exact .inr rfl))) (fun _ _ _ _ _ => (ATs.one (AT.cmp (OA.ninO hu T.m_Loop___contains__ (ok_Loop___contains__ T) (hr.mono (by decide)) (bd_Loop___contains__ T)) (AE.var (pv 9)) (AE.dget hu (AE.var (pv 1)) AE.str (fun _ _ => rfl)) rfl))) (fun _ _ _ _ _ => (AE.var (pv 9))))
    (AB.cons (AS.set sc__law_name_edit.nd rfl (.inl rfl) (AE.bty CA.tuple (by rfl) T.n_tuple (by decide +kernel) (AA.cons (AE.slice (AE.callIo (ok__law_dealt T) (hr.mono (by decide)) (by rfl) T.g40 T.f40.kp (bd__law_dealt T) tk (pv 0) (AA.cons (AE.bin OA.add (AE.bty CA.list (by rfl) T.n_list (by decide +kernel) (AA.cons (AE.dget hu (AE.var (pv 1)) AE.str (fun _ _ => rfl)) AA.nil)) (AE.var (pv 4))) AA.nil)) AO.none (AO.some (AE.var (pv 3)))) AA.nil)))
    (AB.cons (AS.set sc__law_name_edit.nd rfl (.inr rfl) (AE.lst (AA.cons (AE.var (pv 5)) (AA.cons (AE.var (pv 5)) (AA.cons (AE.var (pv 5)) (AA.cons (AE.bin OA.add (AE.var (pv 5)) (AE.tup (AA.cons AE.str AA.nil))) (AA.cons (AE.slice (AE.var (pv 5)) AO.none (AO.some (AE.un UA.neg AE.int))) (AA.cons (AE.bin OA.add (AE.slice (AE.var (pv 5)) AO.none (AO.some (AE.un UA.neg AE.int))) (AE.tup (AA.cons AE.str AA.nil))) (AA.cons (AE.bty CA.list (by rfl) T.n_list (by decide +kernel) (AA.cons (AE.var (pv 5)) AA.nil)) (AA.cons (AE.bin OA.mul (AE.slice (AE.var (pv 5)) AO.none (AO.some AE.int)) AE.int) (AA.cons AE.non AA.nil)))))))))))
    (AB.cons (AS.set sc__law_name_edit.nd rfl (.inr rfl) (AE.callIo (ok__law_pick T) (hr.mono (by decide)) (by rfl) T.g39 T.f39.kp (bd__law_pick T) tk (pv 0) (AA.cons (AE.var (pv 6)) AA.nil)))
    (AB.cons (AS.if_ (AW.pt (AW.and (AT.cmp (OA.eq hu) (AE.var (pv 6)) (AE.var (pv 5)) (nomark _)) (AW.and1 (AT.val (AE.blt CA.isi (by rfl) T.n_isinstance (by decide +kernel) (AA.cons (AE.var (pv 6)) (AA.cons (AE.ty (T := "tuple") (by rfl) T.n_tuple (by decide +kernel)) AA.nil))))))) (AB.one (AS.set sc__law_name_edit.nd rfl (.inl rfl) (AE.call (ok__law_other T) (hr.mono (by decide)) (by rfl) T.g47 T.f47.kp (bd__law_other T) .nil (fun _ _ => .nil) tk (AA.cons (AE.var (pv 1)) (AA.cons AE.str (AA.cons (AE.var (pv 5)) AA.nil)))))) (AB.one (AS.if_ (AW.pt (AW.or (AT.not (AT.val (AE.blt CA.isi (by rfl) T.n_isinstance (by decide +kernel) (AA.cons (AE.var (pv 6)) (AA.cons (AE.ty (T := "tuple") (by rfl) T.n_tuple (by decide +kernel)) AA.nil))))) (AW.or (AT.cmp (OA.eq hu) (AE.var (pv 6)) (AE.tup AA.nil) (nomark _)) (AW.or (AT.cmp OA.gt (AE.blt CA.len (by rfl) T.n_len PySem.boot_len (AA.cons (AE.var (pv 6)) AA.nil)) AE.int (nomark _)) (AW.or (AT.cmp (OA.ne hu) (AE.lenS rfl (by rfl) T.n_len (by rfl) T.n_set (AE.var (pv 6))) (AE.blt CA.len (by rfl) T.n_len PySem.boot_len (AA.cons (AE.var (pv 6)) AA.nil)) (nomark _)) (AW.or1 (AT.cmp (OA.inO hu T.m_Loop___contains__ (ok_Loop___contains__ T) (hr.mono (by decide)) (bd_Loop___contains__ T)) AE.str (AE.var (pv 6)) rfl))))))) (AB.one (AS.set sc__law_name_edit.nd rfl (.inl rfl) AE.str)) (AB.one (AS.set sc__law_name_edit.nd rfl (.inl rfl) AE.str)))))
    (AB.cons (AS.set sc__law_name_edit.nd rfl (.inl rfl) (AE.lam (kb := 8) (k := 0) (kk := 8) T.f45 (th__law_met_error T) sc__law_met_error rfl (.inl rfl) (bd__law_met_error T) (by rfl) T.g45 T.l_51 hcd.symm rfl (hr.mono (by decide)) (by decide) (by decide) (LamX.lamS_by (sc := defScope s__law_name_edit) (by decide +kernel)) rfl (fun _ _ _ _ _ => rfl) (fun A outer s H E f c hr => have hu := hr.units; (AE.meth (cs := [(Str.ofString "Loop", m_Loop_renamed)]) (k := 8) (n := 2) (AE.var (pv 2)) (by simp only [List.forall_mem_cons, List.not_mem_nil, false_implies, implies_true, and_true]; exact ⟨T.cl_Loop, _, _, _, T.m_Loop_renamed, (ok_Loop_renamed T).mono (by decide), bd_Loop_renamed T⟩) (hr.mono (by decide)) (takes_of rfl rfl rfl rfl) (AA.cons (AE.var (pv 6)) AA.nil)))))
    (AB.cons (AS.if_ (AW.pt (AW.and (AT.not (AT.val (AE.blt CA.isi (by rfl) T.n_isinstance (by decide +kernel) (AA.cons (AE.var (pv 8)) (AA.cons (AE.ty (T := "str") (by rfl) T.n_str (by decide +kernel)) AA.nil))))) (AW.and (AT.val (AE.isiO T.i_Loop (by rfl) T.n_isinstance rfl T.o_Loop (AE.var (pv 7)))) (AW.and1 (AT.cmp (OA.neW hu T.q_Loop T.m_Loop___eq__ (ok_Loop___eq__ T) (hr.mono (by decide)) (bd_Loop___eq__ T)) (AE.meth (cs := [(Str.ofString "Loop", m_Loop_renamed)]) (k := 8) (n := 2) (AE.var (pv 7)) (by simp only [List.forall_mem_cons, List.not_mem_nil, false_implies, implies_true, and_true]; exact ⟨T.cl_Loop, _, _, _, T.m_Loop_renamed, (ok_Loop_renamed T).mono (by decide), bd_Loop_renamed T⟩) (hr.mono (by decide)) tk (AA.cons (AE.dget hu (AE.var (pv 1)) AE.str (fun _ _ => rfl)) AA.nil)) (AE.var (pv 2)) (nomark _)))))) (AB.one (AS.ret (AE.lst (AA.cons (AE.var (pv 8)) (AA.cons AE.str AA.nil))))) AB.nil)
    (AB.one (AS.ret (AE.lst (AA.cons (AE.var (pv 8)) (AA.cons (AE.var (pv 7)) AA.nil)))))))))))))
abbrev s_Loop_width : Stmt := inCls (topS 32) 5
theorem sc_Loop_width : FnScope ["self"] ["self"] (defScope s_Loop_width) := ⟨rfl, rfl, rfl, by decide +kernel, rfl, by decide +kernel, by decide +kernel⟩
theorem bd_Loop_width (T : Tx P w K mg) : Binds K T.fd32_5 ["self"] [] := T.f32_5.bindsN fun _ _ _ _ _ _ us hl => match us, hl with | [_], _ => rfl
theorem ok_Loop_width (T : Tx P w K mg) : FnG P w K mg base 1 T.a32_5 T.fd32_5 ["self"] (PSp K 1 m_Loop_width) := by
  refine fn_val (N := ["self"]) T.f32_5 sc_Loop_width rfl fun cdv hcd A outer s H E hr => ?_
  have tk := takes_of (X := cxOf (L2.CX P w) P w K mg base ["self"] "Loop.width" (defScope s_Loop_width) T.a32_5 cdv A outer s H E) (E := E) rfl rfl rfl rfl
  have hp := passes_of (X := cxOf (L2.CX P w) P w K mg base ["self"] "Loop.width" (defScope s_Loop_width) T.a32_5 cdv A outer s H E) rfl
  have hu := hr.units
  exact (AB.one (AS.ret (AE.fld (cs := ["Loop"]) (AE.var (pv 0)) (by simp only [List.forall_mem_cons, List.not_mem_nil, false_implies, implies_true, and_true]; exact T.f_Loop_own_width) (by rfl))))
abbrev s_Loop_multipliers : Stmt := inCls (topS 32) 4
theorem sc_Loop_multipliers : FnScope ["self", "at", "step"] ["self"] (defScope s_Loop_multipliers) := ⟨rfl, rfl, rfl, by decide +kernel, rfl, by decide +kernel, by decide +kernel⟩
theorem bd_Loop_multipliers (T : Tx P w K mg) : Binds K T.fd32_4 ["self"] [] := T.f32_4.bindsN fun _ _ _ _ _ _ us hl => match us, hl with | [_], _ => rfl
theorem ok_Loop_multipliers (T : Tx P w K mg) : FnG P w K mg base 1 T.a32_4 T.fd32_4 ["self"] (PSp K 1 m_Loop_multipliers) := by
  refine fn_val (N := ["self", "at", "step"]) T.f32_4 sc_Loop_multipliers rfl fun cdv hcd A outer s H E hr => ?_
  have tk := takes_of (X := cxOf (L2.CX P w) P w K mg base ["self", "at", "step"] "Loop.multipliers" (defScope s_Loop_multipliers) T.a32_4 cdv A outer s H E) (E := E) rfl rfl rfl rfl
  have hp := passes_of (X := cxOf (L2.CX P w) P w K mg base ["self", "at", "step"] "Loop.multipliers" (defScope s_Loop_multipliers) T.a32_4 cdv A outer s H E) rfl
  have hu := hr.units
  exact (AB.one (AS.ret (AE.bty CA.tuple (by rfl) T.n_tuple (by decide +kernel) (AA.cons (AE.ofN (AN.lc (own := [("at", 1), ("step", 2)]) (t := (.tp [(.sl 1), (.sl 2)])) rfl sc_Loop_multipliers.nd (AI.enum (by rfl) T.n_enumerate (AA.cons (AE.fld (cs := ["Loop"]) (AE.var (pv 0)) (by simp only [List.forall_mem_cons, List.not_mem_nil, false_implies, implies_true, and_true]; exact T.f_Loop_own_steps) (by rfl)) AA.nil)) (blkOk_by (N := ["self", "at", "step"]) (sc := defScope s_Loop_multipliers) (by decide +kernel)) (by decide) (fun _ _ _ _ _ => (AG.tup rfl (AGs.cons (AG.name sc_Loop_multipliers.nd rfl (by first | exact .inl rfl | exact .inr rfl)) (AGs.cons (AG.name sc_Loop_multipliers.nd rfl (by first | exact .inl rfl | exact .inr rfl)) AGs.nil)))) (fun _ _ _ _ _ => ATs.nil) (fun _ _ _ _ _ => (AE.ix (AE.var (pv 2)) (AE.bin OA.add (AE.var (pv 1)) AE.int))))) AA.nil))))
abbrev s_Loop___len__ : Stmt := inCls (topS 32) 14
theorem sc_Loop___len__ : FnScope ["self"] ["self"] (defScope s_Loop___len__) := ⟨rfl, rfl, rfl, by decide +kernel, rfl, by decide +kernel, by decide +kernel⟩
theorem bd_Loop___len__ (T : Tx P w K mg) : Binds K T.fd32_14 ["self"] [] := T.f32_14.bindsN fun _ _ _ _ _ _ us hl => match us, hl with | [_], _ => rfl
theorem ok_Loop___len__ (T : Tx P w K mg) : FnG P w K mg base 1 T.a32_14 T.fd32_14 ["self"] (PSp K 1 m_Loop___len__) := by
  refine fn_val (N := ["self"]) T.f32_14 sc_Loop___len__ rfl fun cdv hcd A outer s H E hr => ?_
  have tk := takes_of (X := cxOf (L2.CX P w) P w K mg base ["self"] "Loop.__len__" (defScope s_Loop___len__) T.a32_14 cdv A outer s H E) (E := E) rfl rfl rfl rfl
  have hp := passes_of (X := cxOf (L2.CX P w) P w K mg base ["self"] "Loop.__len__" (defScope s_Loop___len__) T.a32_14 cdv A outer s H E) rfl
  have hu := hr.units
  exact (AB.one (AS.ret (AE.blt CA.len (by rfl) T.n_len PySem.boot_len (AA.cons (AE.fld (cs := ["Loop"]) (AE.var (pv 0)) (by simp only [List.forall_mem_cons, List.not_mem_nil, false_implies, implies_true, and_true]; exact T.f_Loop_own_tests) (by rfl)) AA.nil))))
abbrev s_Loop_matrix : Stmt := inCls (topS 32) 6
theorem sc_Loop_matrix : FnScope ["self"] ["self"] (defScope s_Loop_matrix) := ⟨rfl, rfl, rfl, by decide +kernel, rfl, by decide +kernel, by decide +kernel⟩
theorem bd_Loop_matrix (T : Tx P w K mg) : Binds K T.fd32_6 ["self"] [] := T.f32_6.bindsN fun _ _ _ _ _ _ us hl => match us, hl with | [_], _ => rfl
theorem ok_Loop_matrix (T : Tx P w K mg) : FnG P w K mg base 1 T.a32_6 T.fd32_6 ["self"] (PSp K 1 m_Loop_matrix) := by
  refine fn_val (N := ["self"]) T.f32_6 sc_Loop_matrix rfl fun cdv hcd A outer s H E hr => ?_
  have tk := takes_of (X := cxOf (L2.CX P w) P w K mg base ["self"] "Loop.matrix" (defScope s_Loop_matrix) T.a32_6 cdv A outer s H E) (E := E) rfl rfl rfl rfl
  have hp := passes_of (X := cxOf (L2.CX P w) P w K mg base ["self"] "Loop.matrix" (defScope s_Loop_matrix) T.a32_6 cdv A outer s H E) rfl
  have hu := hr.units
  exact (AB.one (AS.ret (AE.fld (cs := ["Loop"]) (AE.var (pv 0)) (by simp only [List.forall_mem_cons, List.not_mem_nil, false_implies, implies_true, and_true]; exact T.f_Loop_own_matrix) (by rfl))))
abbrev s_Loop___str__ : Stmt := inCls (topS 32) 16
theorem sc_Loop___str__ : FnScope ["self"] ["self"] (defScope s_Loop___str__) := ⟨rfl, rfl, rfl, by decide +kernel, rfl, by decide +kernel, by decide +kernel⟩
theorem bd_Loop___str__ (T : Tx P w K mg) : Binds K T.fd32_16 ["self"] [] := T.f32_16.bindsN fun _ _ _ _ _ _ us hl => match us, hl with | [_], _ => rfl
theorem ok_Loop___str__ (T : Tx P w K mg) : FnG P w K mg base 1 T.a32_16 T.fd32_16 ["self"] (PSp K 1 m_Loop___str__) := by
  refine fn_val (N := ["self"]) T.f32_16 sc_Loop___str__ rfl fun cdv hcd A outer s H E hr => ?_
  have tk := takes_of (X := cxOf (L2.CX P w) P w K mg base ["self"] "Loop.__str__" (defScope s_Loop___str__) T.a32_16 cdv A outer s H E) (E := E) rfl rfl rfl rfl
  have hp := passes_of (X := cxOf (L2.CX P w) P w K mg base ["self"] "Loop.__str__" (defScope s_Loop___str__) T.a32_16 cdv A outer s H E) rfl
  have hu := hr.units
  exact (AB.one (AS.ret (AE.fstr (AJ.cons AE.str (AJ.cons (AE.fmt (AE.blt CA.len (by rfl) T.n_len PySem.boot_len (AA.cons (AE.fld (cs := ["Loop"]) (AE.var (pv 0)) (by simp only [List.forall_mem_cons, List.not_mem_nil, false_implies, implies_true, and_true]; exact T.f_Loop_own_names) (by rfl)) AA.nil))) (AJ.cons AE.str (AJ.cons (AE.fmt (AE.blt CA.len (by rfl) T.n_len PySem.boot_len (AA.cons (AE.fld (cs := ["Loop"]) (AE.var (pv 0)) (by simp only [List.forall_mem_cons, List.not_mem_nil, false_implies, implies_true, and_true]; exact T.f_Loop_own_tests) (by rfl)) AA.nil))) (AJ.cons AE.str AJ.nil))))))))
abbrev s_Loop_names : Stmt := inCls (topS 32) 1
theorem sc_Loop_names : FnScope ["self"] ["self"] (defScope s_Loop_names) := ⟨rfl, rfl, rfl, by decide +kernel, rfl, by decide +kernel, by decide +kernel⟩
theorem bd_Loop_names (T : Tx P w K mg) : Binds K T.fd32_1 ["self"] [] := T.f32_1.bindsN fun _ _ _ _ _ _ us hl => match us, hl with | [_], _ => rfl
theorem ok_Loop_names (T : Tx P w K mg) : FnG P w K mg base 1 T.a32_1 T.fd32_1 ["self"] (PSp K 1 m_Loop_names) := by
  refine fn_val (N := ["self"]) T.f32_1 sc_Loop_names rfl fun cdv hcd A outer s H E hr => ?_
  have tk := takes_of (X := cxOf (L2.CX P w) P w K mg base ["self"] "Loop.names" (defScope s_Loop_names) T.a32_1 cdv A outer s H E) (E := E) rfl rfl rfl rfl
  have hp := passes_of (X := cxOf (L2.CX P w) P w K mg base ["self"] "Loop.names" (defScope s_Loop_names) T.a32_1 cdv A outer s H E) rfl
  have hu := hr.units
  exact (AB.one (AS.ret (AE.fld (cs := ["Loop"]) (AE.var (pv 0)) (by simp only [List.forall_mem_cons, List.not_mem_nil, false_implies, implies_true, and_true]; exact T.f_Loop_own_names) (by rfl))))
abbrev s_Loop_steps : Stmt := inCls (topS 32) 2
theorem sc_Loop_steps : FnScope ["self"] ["self"] (defScope s_Loop_steps) := ⟨rfl, rfl, rfl, by decide +kernel, rfl, by decide +kernel, by decide +kernel⟩
theorem bd_Loop_steps (T : Tx P w K mg) : Binds K T.fd32_2 ["self"] [] := T.f32_2.bindsN fun _ _ _ _ _ _ us hl => match us, hl with | [_], _ => rfl
theorem ok_Loop_steps (T : Tx P w K mg) : FnG P w K mg base 1 T.a32_2 T.fd32_2 ["self"] (PSp K 1 m_Loop_steps) := by
  refine fn_val (N := ["self"]) T.f32_2 sc_Loop_steps rfl fun cdv hcd A outer s H E hr => ?_
  have tk := takes_of (X := cxOf (L2.CX P w) P w K mg base ["self"] "Loop.steps" (defScope s_Loop_steps) T.a32_2 cdv A outer s H E) (E := E) rfl rfl rfl rfl
  have hp := passes_of (X := cxOf (L2.CX P w) P w K mg base ["self"] "Loop.steps" (defScope s_Loop_steps) T.a32_2 cdv A outer s H E) rfl
  have hu := hr.units
  exact (AB.one (AS.ret (AE.fld (cs := ["Loop"]) (AE.var (pv 0)) (by simp only [List.forall_mem_cons, List.not_mem_nil, false_implies, implies_true, and_true]; exact T.f_Loop_own_steps) (by rfl))))
abbrev s_Loop_tests : Stmt := inCls (topS 32) 3
theorem sc_Loop_tests : FnScope ["self"] ["self"] (defScope s_Loop_tests) := ⟨rfl, rfl, rfl, by decide +kernel, rfl, by decide +kernel, by decide +kernel⟩
theorem bd_Loop_tests (T : Tx P w K mg) : Binds K T.fd32_3 ["self"] [] := T.f32_3.bindsN fun _ _ _ _ _ _ us hl => match us, hl with | [_], _ => rfl
theorem ok_Loop_tests (T : Tx P w K mg) : FnG P w K mg base 1 T.a32_3 T.fd32_3 ["self"] (PSp K 1 m_Loop_tests) := by
  refine fn_val (N := ["self"]) T.f32_3 sc_Loop_tests rfl fun cdv hcd A outer s H E hr => ?_
  have tk := takes_of (X := cxOf (L2.CX P w) P w K mg base ["self"] "Loop.tests" (defScope s_Loop_tests) T.a32_3 cdv A outer s H E) (E := E) rfl rfl rfl rfl
  have hp := passes_of (X := cxOf (L2.CX P w) P w K mg base ["self"] "Loop.tests" (defScope s_Loop_tests) T.a32_3 cdv A outer s H E) rfl
  have hu := hr.units
  exact (AB.one (AS.ret (AE.fld (cs := ["Loop"]) (AE.var (pv 0)) (by simp only [List.forall_mem_cons, List.not_mem_nil, false_implies, implies_true, and_true]; exact T.f_Loop_own_tests) (by rfl))))
abbrev s_Loop___getitem__ : Stmt := inCls (topS 32) 11
theorem sc_Loop___getitem__ : FnScope ["self", "name"] ["self", "name"] (defScope s_Loop___getitem__) := ⟨rfl, rfl, rfl, by decide +kernel, rfl, by decide +kernel, by decide +kernel⟩
theorem bd_Loop___getitem__ (T : Tx P w K mg) : Binds K T.fd32_11 ["self", "name"] [] := T.f32_11.bindsN fun _ _ _ _ _ _ us hl => match us, hl with | [_, _], _ => rfl
theorem ok_Loop___getitem__ (T : Tx P w K mg) : FnG P w K mg base 2 T.a32_11 T.fd32_11 ["self", "name"] (PSp K 2 m_Loop___getitem__) := by
  refine fn_val (N := ["self", "name"]) T.f32_11 sc_Loop___getitem__ rfl fun cdv hcd A outer s H E hr => ?_
  have tk := takes_of (X := cxOf (L2.CX P w) P w K mg base ["self", "name"] "Loop.__getitem__" (defScope s_Loop___getitem__) T.a32_11 cdv A outer s H E) (E := E) rfl rfl rfl rfl
  have hp := passes_of (X := cxOf (L2.CX P w) P w K mg base ["self", "name"] "Loop.__getitem__" (defScope s_Loop___getitem__) T.a32_11 cdv A outer s H E) rfl
  have hu := hr.units
  exact (AB.cons (AS.if_ (AW.pt (AW.or (AT.not (AT.val (AE.blt CA.isi (by rfl) T.n_isinstance (by decide +kernel) (AA.cons (AE.var (pv 1)) (AA.cons (AE.ty (T := "str") (by rfl) T.n_str (by decide +kernel)) AA.nil))))) (AW.or1 (AT.cmp (OA.notInX hu) (AE.var (pv 1)) (AE.fld (cs := ["Loop"]) (AE.var (pv 0)) (by simp only [List.forall_mem_cons, List.not_mem_nil, false_implies, implies_true, and_true]; exact T.f_Loop_own_by_name) (by rfl)) rfl)))) (AB.one (AS.raiseI (k := 0) rfl tk T.r_UnknownName (hr.mono (by decide)) T.o_UnknownName T.n_super rfl (AE.var (pv 1)))) AB.nil)
    (AB.one (AS.ret (AE.dget hu (AE.fld (cs := ["Loop"]) (AE.var (pv 0)) (by simp only [List.forall_mem_cons, List.not_mem_nil, false_implies, implies_true, and_true]; exact T.f_Loop_own_by_name) (by rfl)) (AE.var (pv 1)) (fun _ _ => rfl)))))
abbrev s__law_is_loop : Stmt := topS 44
theorem sc__law_is_loop : FnScope ["_law_made", "_law_loop", "_law_own", "_law_words", "_law_moves", "_law_checks", "_law_size", "_law_at", "_law_move", "_law_word"] ["_law_made", "_law_loop"] (defScope s__law_is_loop) := ⟨rfl, rfl, rfl, by decide +kernel, rfl, by decide +kernel, by decide +kernel⟩
theorem bd__law_is_loop (T : Tx P w K mg) : Binds K T.fd44 ["_law_made", "_law_loop"] [] := T.f44.bindsN fun _ _ _ _ _ _ us hl => match us, hl with | [_, _], _ => rfl
theorem ok__law_is_loop (T : Tx P w K mg) : FnG P w K mg base 4 T.a44 T.fd44 ["_law_made", "_law_loop"] (PSp K 2 m__law_is_loop) := by
  refine fn_val (N := ["_law_made", "_law_loop", "_law_own", "_law_words", "_law_moves", "_law_checks", "_law_size", "_law_at", "_law_move", "_law_word"]) T.f44 sc__law_is_loop rfl fun cdv hcd A outer s H E hr => ?_
  have tk := takes_of (X := cxOf (L2.CX P w) P w K mg base ["_law_made", "_law_loop", "_law_own", "_law_words", "_law_moves", "_law_checks", "_law_size", "_law_at", "_law_move", "_law_word"] "_law_is_loop" (defScope s__law_is_loop) T.a44 cdv A outer s H E) (E := E) rfl rfl rfl rfl
  have hp := passes_of (X := cxOf (L2.CX P w) P w K mg base ["_law_made", "_law_loop", "_law_own", "_law_words", "_law_moves", "_law_checks", "_law_size", "_law_at", "_law_move", "_law_word"] "_law_is_loop" (defScope s__law_is_loop) T.a44 cdv A outer s H E) rfl
  have hu := hr.units
  exact (AB.cons (AS.par rfl sc__law_is_loop.nd rfl rfl (by decide) rfl rfl (AA.cons (AE.dget hu (AE.var (pv 1)) AE.str (fun _ _ => rfl)) (AA.cons (AE.dget hu (AE.var (pv 1)) AE.str (fun _ _ => rfl)) AA.nil)))
    (AB.cons (AS.par rfl sc__law_is_loop.nd rfl rfl (by decide) rfl rfl (AA.cons (AE.dget hu (AE.var (pv 1)) AE.str (fun _ _ => rfl)) (AA.cons (AE.blt CA.len (by rfl) T.n_len PySem.boot_len (AA.cons (AE.var (pv 3)) AA.nil)) AA.nil)))
    (AB.cons (AS.if_ (AW.pt (AW.or (AT.cmp (OA.ne hu) (AE.blt (CA.reprX T.sysK hr.g hu) (by rfl) T.n_repr (by decide +kernel) (AA.cons (AE.lst (AA.cons (AE.prop (cs := [(Str.ofString "Loop", m_Loop_names)]) (k := 1) (AE.var (pv 0)) (by simp only [List.forall_mem_cons, List.not_mem_nil, false_implies, implies_true, and_true]; exact (let ⟨_, h⟩ := T.p_Loop_names; ⟨T.cl_Loop, _, _, _, _, h, (ok_Loop_names T).mono (by decide), bd_Loop_names T⟩)) (hr.mono (by decide)) (by rfl)) (AA.cons (AE.prop (cs := [(Str.ofString "Loop", m_Loop_steps)]) (k := 1) (AE.var (pv 0)) (by simp only [List.forall_mem_cons, List.not_mem_nil, false_implies, implies_true, and_true]; exact (let ⟨_, h⟩ := T.p_Loop_steps; ⟨T.cl_Loop, _, _, _, _, h, (ok_Loop_steps T).mono (by decide), bd_Loop_steps T⟩)) (hr.mono (by decide)) (by rfl)) (AA.cons (AE.prop (cs := [(Str.ofString "Loop", m_Loop_tests)]) (k := 1) (AE.var (pv 0)) (by simp only [List.forall_mem_cons, List.not_mem_nil, false_implies, implies_true, and_true]; exact (let ⟨_, h⟩ := T.p_Loop_tests; ⟨T.cl_Loop, _, _, _, _, h, (ok_Loop_tests T).mono (by decide), bd_Loop_tests T⟩)) (hr.mono (by decide)) (by rfl)) AA.nil)))) AA.nil)) (AE.blt (CA.reprX T.sysK hr.g hu) (by rfl) T.n_repr (by decide +kernel) (AA.cons (AE.lst (AA.cons (AE.var (pv 3)) (AA.cons (AE.var (pv 4)) (AA.cons (AE.var (pv 5)) AA.nil)))) AA.nil)) (nomark _)) (AW.or1 (AT.cmp (OA.ne hu) (AE.prop (cs := [(Str.ofString "Loop", m_Loop_width)]) (k := 1) (AE.var (pv 0)) (by simp only [List.forall_mem_cons, List.not_mem_nil, false_implies, implies_true, and_true]; exact (let ⟨_, h⟩ := T.p_Loop_width; ⟨T.cl_Loop, _, _, _, _, h, (ok_Loop_width T).mono (by decide), bd_Loop_width T⟩)) (hr.mono (by decide)) (by rfl)) (AE.bin OA.add (AE.var (pv 6)) AE.int) (nomark _))))) (AB.one (AS.ret AE.bl)) AB.nil)
    (AB.cons (AS.set sc__law_is_loop.nd rfl (.inl rfl) (AE.bty CA.tuple (by rfl) T.n_tuple (by decide +kernel) (AA.cons (AE.ofN (AN.lc (own := [("_law_at", 7), ("_law_move", 8)]) (t := (.tp [(.sl 7), (.sl 8)])) rfl sc__law_is_loop.nd (AI.enum (by rfl) T.n_enumerate (AA.cons (AE.var (pv 4)) AA.nil)) (blkOk_by (N := ["_law_made", "_law_loop", "_law_own", "_law_words", "_law_moves", "_law_checks", "_law_size", "_law_at", "_law_move", "_law_word"]) (sc := defScope s__law_is_loop) (by decide +kernel)) (by decide) (fun _ _ _ _ _ => (AG.tup rfl (AGs.cons (AG.name sc__law_is_loop.nd rfl (by first | exact .inl rfl | exact .inr rfl)) (AGs.cons (AG.name sc__law_is_loop.nd rfl (by first | exact .inl rfl | exact .inr rfl)) AGs.nil)))) (fun _ _ _ _ _ => ATs.nil) (fun _ _ _ _ _ => (AE.ix (AE.var (pv 8)) (AE.bin OA.add (AE.var (pv 7)) AE.int))))) AA.nil)))
    (AB.cons (AS.if_ (AW.pt (AW.or (AT.cmp (OA.ne hu) (AE.prop (cs := [(Str.ofString "Loop", m_Loop_multipliers)]) (k := 1) (AE.var (pv 0)) (by simp only [List.forall_mem_cons, List.not_mem_nil, false_implies, implies_true, and_true]; exact (let ⟨_, h⟩ := T.p_Loop_multipliers; ⟨T.cl_Loop, _, _, _, _, h, (ok_Loop_multipliers T).mono (by decide), bd_Loop_multipliers T⟩)) (hr.mono (by decide)) (by rfl)) (AE.var (pv 2)) (nomark _)) (AW.or1 (AT.cmp (OA.ne hu) (AE.blt (CA.lenW T.m_Loop___len__ (ok_Loop___len__ T) (hr.mono (by decide)) (bd_Loop___len__ T)) (by rfl) T.n_len PySem.boot_len (AA.cons (AE.var (pv 0)) AA.nil)) (AE.blt CA.len (by rfl) T.n_len PySem.boot_len (AA.cons (AE.var (pv 5)) AA.nil)) (nomark _))))) (AB.one (AS.ret AE.bl)) AB.nil)
    (AB.cons (AS.if_ (AT.cmp (OA.ne hu) (AE.blt (CA.reprX T.sysK hr.g hu) (by rfl) T.n_repr (by decide +kernel) (AA.cons (AE.prop (cs := [(Str.ofString "Loop", m_Loop_matrix)]) (k := 1) (AE.var (pv 0)) (by simp only [List.forall_mem_cons, List.not_mem_nil, false_implies, implies_true, and_true]; exact (let ⟨_, h⟩ := T.p_Loop_matrix; ⟨T.cl_Loop, _, _, _, _, h, (ok_Loop_matrix T).mono (by decide), bd_Loop_matrix T⟩)) (hr.mono (by decide)) (by rfl)) AA.nil)) (AE.blt (CA.reprX T.sysK hr.g hu) (by rfl) T.n_repr (by decide +kernel) (AA.cons (AE.bin OA.add (AE.tup (AA.cons (AE.bin OA.add (AE.tup (AA.cons AE.int AA.nil)) (AE.bin OA.mul (AE.tup (AA.cons AE.int AA.nil)) (AE.var (pv 6)))) AA.nil)) (AE.var (pv 4))) AA.nil)) (nomark _)) (AB.one (AS.ret AE.bl)) AB.nil)
    (AB.cons (AS.if_ (AT.cmp (OA.ne hu) (AE.ofN (AN.lc (own := [("_law_word", 9), ("_law_move", 8)]) (t := (.tp [(.sl 9), (.sl 8)])) rfl sc__law_is_loop.nd (AI.zipM (by rfl) T.n_zip (AA.cons (AE.var (pv 3)) (AA.cons (AE.var (pv 4)) AA.nil))) (blkOk_by (N := ["_law_made", "_law_loop", "_law_own", "_law_words", "_law_moves", "_law_checks", "_law_size", "_law_at", "_law_move", "_law_word"]) (sc := defScope s__law_is_loop) (by decide +kernel)) (by decide) (fun _ _ _ _ _ => (AG.tup rfl (AGs.cons (AG.name sc__law_is_loop.nd rfl (by first | exact .inl rfl | exact .inr rfl)) (AGs.cons (AG.name sc__law_is_loop.nd rfl (by first | exact .inl rfl | exact .inr rfl)) AGs.nil)))) (fun _ _ _ _ _ => (ATs.one (AW.pt (AW.or (AT.cmp (OA.ne hu) (AE.blt (CA.reprX T.sysK hr.g hu) (by rfl) T.n_repr (by decide +kernel) (AA.cons (AE.ixW T.m_Loop___getitem__ (fnIn_of T.f32_11) (ok_Loop___getitem__ T) (hr.mono (by decide)) (bd_Loop___getitem__ T) (AE.var (pv 0)) (AE.var (pv 9))) AA.nil)) (AE.blt (CA.reprX T.sysK hr.g hu) (by rfl) T.n_repr (by decide +kernel) (AA.cons (AE.var (pv 8)) AA.nil)) (nomark _)) (AW.or1 (AT.cmp (OA.ninO hu T.m_Loop___contains__ (ok_Loop___contains__ T) (hr.mono (by decide)) (bd_Loop___contains__ T)) (AE.var (pv 9)) (AE.var (pv 0)) rfl)))))) (fun _ _ _ _ _ => (AE.var (pv 9))))) (AE.lst AA.nil) (nomark _)) (AB.one (AS.ret AE.bl)) AB.nil)
    (AB.one (AS.ret (AE.cmp (OA.eq hu) (AE.ofN (AN.split (AE.bty (CA.strW hu T.m_Loop___str__ (ok_Loop___str__ T) (hr.mono (by decide)) (bd_Loop___str__ T)) (by rfl) T.n_str (by decide +kernel) (AA.cons (AE.var (pv 0)) AA.nil)) AE.str)) (AE.lst (AA.cons AE.str (AA.cons AE.str (AA.cons (AE.bty CA.str (by rfl) T.n_str (by decide +kernel) (AA.cons (AE.var (pv 6)) AA.nil)) (AA.cons AE.str (AA.cons (AE.bty CA.str (by rfl) T.n_str (by decide +kernel) (AA.cons (AE.blt CA.len (by rfl) T.n_len PySem.boot_len (AA.cons (AE.var (pv 5)) AA.nil)) AA.nil)) (AA.cons AE.str AA.nil))))))) (nomark _)))))))))))
abbrev s__law_right : Stmt := topS 52
theorem sc__law_right : FnScope ["_law_bowl_here", "_law_made", "_law_turn", "_law_loop", "_law_kept", "_law_edit", "_law_due", "_law_told", "_law_one"] ["_law_bowl_here"] (defScope s__law_right) := ⟨rfl, rfl, rfl, by decide +kernel, rfl, by decide +kernel, by decide +kernel⟩
theorem bd__law_right (T : Tx P w K mg) : Binds K T.fd52 ["_law_bowl_here"] [] := T.f52.bindsN fun _ _ _ _ _ _ us hl => match us, hl with | [_], _ => rfl
theorem ok__law_right (T : Tx P w K mg) : FnG P w K mg base 12 T.a52 T.fd52 ["_law_bowl_here"] (ISp K 0 (m__law_right_k11 (adM mg))) := by
  refine fn_io (N := ["_law_bowl_here", "_law_made", "_law_turn", "_law_loop", "_law_kept", "_law_edit", "_law_due", "_law_told", "_law_one"]) T.f52 sc__law_right rfl fun cdv hcd A outer s H E hr => ?_
  have tk := takes_of (X := cxOf (L2.CX P w) P w K mg base ["_law_bowl_here", "_law_made", "_law_turn", "_law_loop", "_law_kept", "_law_edit", "_law_due", "_law_told", "_law_one"] "_law_right" (defScope s__law_right) T.a52 cdv A outer s H E) (E := E) rfl rfl rfl rfl
  have hp := passes_of (X := cxOf (L2.CX P w) P w K mg base ["_law_bowl_here", "_law_made", "_law_turn", "_law_loop", "_law_kept", "_law_edit", "_law_due", "_law_told", "_law_one"] "_law_right" (defScope s__law_right) T.a52 cdv A outer s H E) rfl
  have hu := hr.units
  exact (AB.cons (AS.parM2 rfl sc__law_right.nd rfl rfl (by decide) rfl rfl (AM.v (AE.callIo (ok__law_wide_loop T) (hr.mono (by decide)) (by rfl) T.g46 T.f46.kp (bd__law_wide_loop T) tk (pv 0) AA.nil) (AM.n (AN.lst AA.nil) AM.nil)))
    (AB.cons (AS.set sc__law_right.nd rfl (.inl rfl) (AE.call (ok__law_made_loop T) (hr.mono (by decide)) (by rfl) T.g43 T.f43.kp (bd__law_made_loop T) .nil (fun _ _ => .nil) tk (AA.cons (AE.var (pv 3)) AA.nil)))
    (AB.cons (AS.for_ hp rfl (AI.range1 (by rfl) T.n_range (AA.cons AE.int AA.nil)) (AG.name sc__law_right.nd rfl (.inl rfl)) (AB.cons (AS.expr (AE.app (pv 4) (AE.tup (AA.cons (AE.var (pv 1)) (AA.cons (AE.var (pv 3)) AA.nil)))))
    (AB.cons (AS.set sc__law_right.nd rfl (.inl rfl) (AE.callIo (ok__law_pick T) (hr.mono (by decide)) (by rfl) T.g39 T.f39.kp (bd__law_pick T) tk (pv 0) (AA.cons (AE.lst (AA.cons (AE.fnv (by rfl) T.g48) (AA.cons (AE.fnv (by rfl) T.g49) (AA.cons (AE.fnv (by rfl) T.g50) (AA.cons (AE.fnv (by rfl) T.g50) (AA.cons (AE.fnv (by rfl) T.g51) AA.nil)))))) AA.nil)))
    (AB.cons (AS.asg (AE.callIoL (k := 11) (hr.mono (by decide)) tk (pv 5) (by simp only [List.forall_mem_cons, List.not_mem_nil, false_implies, implies_true, and_true]; exact ⟨⟨_, _, _, adM_eq T.g48, (ok__law_test_edit T).mono (by decide), T.f48.kp, bd__law_test_edit T⟩, ⟨_, _, _, adM_eq T.g49, (ok__law_less_edit T).mono (by decide), T.f49.kp, bd__law_less_edit T⟩, ⟨_, _, _, adM_eq T.g50, (ok__law_step_edit T).mono (by decide), T.f50.kp, bd__law_step_edit T⟩, ⟨_, _, _, adM_eq T.g51, (ok__law_name_edit T).mono (by decide), T.f51.kp, bd__law_name_edit T⟩⟩) (pv 0) (AA.cons (AE.var (pv 3)) (AA.cons (AE.var (pv 1)) AA.nil))) (AG.tup rfl (AGs.cons (AG.name sc__law_right.nd rfl (.inl rfl)) (AGs.cons (AG.name sc__law_right.nd rfl (.inl rfl)) AGs.nil))))
    (AB.one (AS.if_ (AT.val (AE.blt CA.isi (by rfl) T.n_isinstance (by decide +kernel) (AA.cons (AE.var (pv 6)) (AA.cons (AE.ty (T := "str") (by rfl) T.n_str (by decide +kernel)) AA.nil)))) (AB.one (AS.if_ (AT.cmp (OA.ne hu) (AE.var (pv 7)) (AE.var (pv 6)) (nomark _)) (AB.one (AS.ret AE.bl)) AB.nil)) (AB.one (AS.if_ (AW.pt (AW.or (AT.not (AT.val (AE.isiO T.i_Loop (by rfl) T.n_isinstance rfl T.o_Loop (AE.var (pv 7))))) (AW.or1 (AT.not (AT.val (AE.call (ok__law_is_loop T) (hr.mono (by decide)) (by rfl) T.g44 T.f44.kp (bd__law_is_loop T) .nil (fun _ _ => .nil) tk (AA.cons (AE.var (pv 7)) (AA.cons (AE.var (pv 6)) AA.nil)))))))) (AB.one (AS.ret AE.bl)) (AB.one (AS.par rfl sc__law_right.nd rfl rfl (by decide) rfl rfl (AA.cons (AE.var (pv 6)) (AA.cons (AE.var (pv 7)) AA.nil))))))))))))
    (AB.one (AS.ret (AE.cmp (OA.eq hu) (AE.ofN (AN.lc (own := [("_law_one", 8)]) (t := (.sl 8)) rfl sc__law_right.nd (AI.any (AE.var (pv 4))) (blkOk_by (N := ["_law_bowl_here", "_law_made", "_law_turn", "_law_loop", "_law_kept", "_law_edit", "_law_due", "_law_told", "_law_one"]) (sc := defScope s__law_right) (by decide +kernel)) (by decide) (fun _ _ _ _ _ => (AG.name sc__law_right.nd rfl (by first | exact .inl rfl | exact .inr rfl))) (fun _ _ _ _ _ => (ATs.one (AT.not (AT.val (AE.call (ok__law_is_loop T) (hr.mono (by decide)) (by rfl) T.g44 T.f44.kp (bd__law_is_loop T) .nil (fun _ _ => .nil) takes0 (AA.cons (AE.ix (AE.var (pv 8)) AE.int) (AA.cons (AE.ix (AE.var (pv 8)) AE.int) AA.nil))))))) (fun _ _ _ _ _ => (AE.var (pv 8))))) (AE.lst AA.nil) (nomark _)))))))
abbrev s__law_bowl : Stmt := topS 37
theorem sc__law_bowl : FnScope ["_law_script", "_law_at", "_law_cell", "_law_great", "_law_mixed"] ["_law_script", "_law_at"] (defScope s__law_bowl) := ⟨rfl, rfl, rfl, by decide +kernel, rfl, by decide +kernel, by decide +kernel⟩
theorem bd__law_bowl (T : Tx P w K mg) : Binds K T.fd37 ["_law_script", "_law_at"] [] := T.f37.bindsN fun _ _ _ _ _ _ us hl => match us, hl with | [_, _], _ => rfl
theorem ok__law_bowl (T : Tx P w K mg) : FnG P w K mg base 1 T.a37 T.fd37 ["_law_script", "_law_at"] (NSp K 2 m__law_bowl) := by
  refine fn_new (N := ["_law_script", "_law_at", "_law_cell", "_law_great", "_law_mixed"]) T.f37 sc__law_bowl rfl fun cdv hcd A outer s H E hr => ?_
  have tk := takes_of (X := cxOf (L2.CX P w) P w K mg base ["_law_script", "_law_at", "_law_cell", "_law_great", "_law_mixed"] "_law_bowl" (defScope s__law_bowl) T.a37 cdv A outer s H E) (E := E) rfl rfl rfl rfl
  have hp := passes_of (X := cxOf (L2.CX P w) P w K mg base ["_law_script", "_law_at", "_law_cell", "_law_great", "_law_mixed"] "_law_bowl" (defScope s__law_bowl) T.a37 cdv A outer s H E) rfl
  have hu := hr.units
  exact (AB.cons (AS.set sc__law_bowl.nd rfl (.inl rfl) (AE.ifx (AT.cmp OA.lt (AE.var (pv 1)) (AE.blt CA.len (by rfl) T.n_len PySem.boot_len (AA.cons (AE.var (pv 0)) AA.nil)) (nomark _)) (AE.ix (AE.var (pv 0)) (AE.var (pv 1))) (AE.bin OA.add (AE.bin OA.mul AE.int (AE.var (pv 1))) AE.int)))
    (AB.cons (AS.set sc__law_bowl.nd rfl (.inl rfl) (AE.bin OA.mod (AE.bty CA.int (by rfl) T.n_int (by decide +kernel) (AA.cons (AE.blt CA.abs (by rfl) T.n_abs (by decide +kernel) (AA.cons (AE.var (pv 2)) AA.nil)) AA.nil)) (AE.bin OA.pow (AE.bin OA.pow AE.int AE.int) AE.int)))
    (AB.cons (AS.set sc__law_bowl.nd rfl (.inl rfl) (AE.bin OA.add (AE.bin OA.add (AE.bin OA.add (AE.bin OA.mul (AE.bin OA.mod (AE.bty CA.int (by rfl) T.n_int (by decide +kernel) (AA.cons (AE.var (pv 3)) AA.nil)) AE.int) AE.int) (AE.bin OA.mul AE.int (AE.var (pv 1)))) (AE.bin OA.mul AE.int (AE.bty CA.int (by rfl) T.n_int (by decide +kernel) (AA.cons (AE.cmp OA.lt (AE.var (pv 2)) AE.int (nomark _)) AA.nil)))) AE.int))
    (AB.one (AS.retNew (AN.lst (AA.cons (AE.blt (CA.max2 rfl) (by rfl) T.n_max (by decide +kernel) (AA.cons AE.int (AA.cons (AE.bin OA.sub (AE.var (pv 3)) (AE.bin OA.pow AE.int AE.int)) AA.nil))) (AA.cons (AE.bin OA.mod (AE.bty CA.int (by rfl) T.n_int (by decide +kernel) (AA.cons (AE.var (pv 4)) AA.nil)) AE.int) (AA.cons AE.int AA.nil)))))))))
abbrev s_law : Stmt := topS 53
theorem sc_law : FnScope ["_law_script", "_law_at"] ["_law_script"] (defScope s_law) := ⟨rfl, rfl, rfl, by decide +kernel, rfl, by decide +kernel, by decide +kernel⟩
theorem ok_law (T : Tx P w K mg) : FnG P w K mg base 13 T.a53 T.fd53 ["_law_script"] (PSp K 1 (m_law_k11 (adM mg))) := by
  refine fn_val (N := ["_law_script", "_law_at"]) T.f53 sc_law rfl fun cdv hcd A outer s H E hr => ?_
  have tk := takes_of (X := cxOf (L2.CX P w) P w K mg base ["_law_script", "_law_at"] "law" (defScope s_law) T.a53 cdv A outer s H E) (E := E) rfl rfl rfl rfl
  have hp := passes_of (X := cxOf (L2.CX P w) P w K mg base ["_law_script", "_law_at"] "law" (defScope s_law) T.a53 cdv A outer s H E) rfl
  have hu := hr.units
  exact (AB.cons (AS.for_ hp rfl (AI.range1 (by rfl) T.n_range (AA.cons (AE.blt (CA.max2 rfl) (by rfl) T.n_max (by decide +kernel) (AA.cons AE.int (AA.cons (AE.blt (CA.min2 rfl) (by rfl) T.n_min (by decide +kernel) (AA.cons AE.int (AA.cons (AE.blt CA.len (by rfl) T.n_len PySem.boot_len (AA.cons (AE.var (pv 0)) AA.nil)) AA.nil))) AA.nil))) AA.nil)) (AG.name sc_law.nd rfl (.inl rfl)) (AB.one (AS.if_ (AT.not (AT.val (AE.callIoT (ok__law_right T) (hr.mono (by decide)) (by rfl) T.g52 T.f52.kp (bd__law_right T) tk (AN.call (ok__law_bowl T) (hr.mono (by decide)) (by rfl) T.g37 T.f37.kp (bd__law_bowl T) tk (AA.cons (AE.var (pv 0)) (AA.cons (AE.var (pv 1)) AA.nil)))))) (AB.one (AS.ret AE.bl)) AB.nil)))
    (AB.one (AS.ret AE.bl)))
end
end K11
namespace K11
open PySem PySem.Spec PyProof.Rows L2 Mr Pm
theorem tx {w : World} {K : PySem.W.Frag} {h : Heap} {mg : Str → Option Value} (X : K.In h) (G : h.Ns mainGlobals mg) (c : SaysM fa tb fn K) (lb : lamB ls K = true) (D : WdAt wd w K) : ∃ T : Tx PP w K mg, T.a53 = He.ga K "law" := by
  obtain ⟨fd5, F5⟩ := c.def_ 0 rfl
  obtain ⟨fd6, F6⟩ := c.def_ 1 rfl
  obtain ⟨fd4, F4⟩ := c.def_ 2 rfl
  obtain ⟨fd25, F25⟩ := c.def_ 3 rfl
  obtain ⟨fd26, F26⟩ := c.def_ 4 rfl
  obtain ⟨fd29, F29⟩ := c.def_ 5 rfl
  obtain ⟨fd30, F30⟩ := c.def_ 6 rfl
  obtain ⟨fd27, F27⟩ := c.def_ 7 rfl
  obtain ⟨fd28, F28⟩ := c.def_ 8 rfl
  obtain ⟨fd31, F31⟩ := c.def_ 9 rfl
  obtain ⟨fd32_0, F32_0⟩ := c.def_ 10 rfl
  obtain ⟨fd43, F43⟩ := c.def_ 11 rfl
  obtain ⟨fd38, F38⟩ := c.def_ 12 rfl
  obtain ⟨fd39, F39⟩ := c.def_ 13 rfl
  obtain ⟨fd40, F40⟩ := c.def_ 14 rfl
  obtain ⟨fd41, F41⟩ := c.def_ 15 rfl
  obtain ⟨fd42, F42⟩ := c.def_ 16 rfl
  obtain ⟨fd46, F46⟩ := c.def_ 17 rfl
  obtain ⟨fd47, F47⟩ := c.def_ 18 rfl
  obtain ⟨fd45, F45⟩ := c.def_ 19 rfl
  obtain ⟨fd32_15, F32_15⟩ := c.def_ 20 rfl
  obtain ⟨fd33, F33⟩ := c.def_ 21 rfl
  obtain ⟨fd34, F34⟩ := c.def_ 22 rfl
  obtain ⟨fd32_7, F32_7⟩ := c.def_ 23 rfl
  obtain ⟨fd32_8, F32_8⟩ := c.def_ 24 rfl
  obtain ⟨fd48, F48⟩ := c.def_ 25 rfl
  obtain ⟨fd49, F49⟩ := c.def_ 26 rfl
  obtain ⟨fd35, F35⟩ := c.def_ 27 rfl
  obtain ⟨fd32_9, F32_9⟩ := c.def_ 28 rfl
  obtain ⟨fd50, F50⟩ := c.def_ 29 rfl
  obtain ⟨fd32_12, F32_12⟩ := c.def_ 30 rfl
  obtain ⟨fd32_10, F32_10⟩ := c.def_ 31 rfl
  obtain ⟨fd51, F51⟩ := c.def_ 32 rfl
  obtain ⟨fd32_5, F32_5⟩ := c.def_ 33 rfl
  obtain ⟨fd32_4, F32_4⟩ := c.def_ 34 rfl
  obtain ⟨fd32_14, F32_14⟩ := c.def_ 35 rfl
  obtain ⟨fd32_6, F32_6⟩ := c.def_ 36 rfl
  obtain ⟨fd32_16, F32_16⟩ := c.def_ 37 rfl
  obtain ⟨fd32_1, F32_1⟩ := c.def_ 38 rfl
  obtain ⟨fd32_2, F32_2⟩ := c.def_ 39 rfl
  obtain ⟨fd32_3, F32_3⟩ := c.def_ 40 rfl
  obtain ⟨fd32_11, F32_11⟩ := c.def_ 41 rfl
  obtain ⟨fd44, F44⟩ := c.def_ 42 rfl
  obtain ⟨fd52, F52⟩ := c.def_ 43 rfl
  obtain ⟨fd37, F37⟩ := c.def_ 44 rfl
  obtain ⟨fd53, F53⟩ := c.def_ 45 rfl
  obtain ⟨t3, C3⟩ := He.int_ok X G (c.fact 108 rfl)
  obtain ⟨t1, C1⟩ := He.int_ok X G (c.fact 109 rfl)
  obtain ⟨t19, C19⟩ := He.int_ok X G (c.fact 110 rfl)
  obtain ⟨t20, C20⟩ := He.int_ok X G (c.fact 111 rfl)
  obtain ⟨t18, C18⟩ := He.int_ok X G (c.fact 112 rfl)
  obtain ⟨t21, C21⟩ := He.int_ok X G (c.fact 113 rfl)
  obtain ⟨t2, C2⟩ := He.int_ok X G (c.fact 114 rfl)
  exact ⟨⟨_, fd5, F5,
    He.glo_ok X G (c.fact 0 rfl),
    _, fd6, F6,
    He.glo_ok X G (c.fact 1 rfl),
    _, fd4, F4,
    He.glo_ok X G (c.fact 2 rfl),
    _, fd25, F25,
    He.glo_ok X G (c.fact 3 rfl),
    _, fd26, F26,
    He.glo_ok X G (c.fact 4 rfl),
    _, fd29, F29,
    He.glo_ok X G (c.fact 5 rfl),
    _, fd30, F30,
    He.glo_ok X G (c.fact 6 rfl),
    _, fd27, F27,
    He.glo_ok X G (c.fact 7 rfl),
    _, fd28, F28,
    He.glo_ok X G (c.fact 8 rfl),
    _, fd31, F31,
    He.glo_ok X G (c.fact 9 rfl),
    _, fd32_0, F32_0,
    He.mkr_ok (c.fact 10 rfl),
    _, fd43, F43,
    He.glo_ok X G (c.fact 11 rfl),
    _, fd38, F38,
    He.glo_ok X G (c.fact 12 rfl),
    _, fd39, F39,
    He.glo_ok X G (c.fact 13 rfl),
    _, fd40, F40,
    He.glo_ok X G (c.fact 14 rfl),
    _, fd41, F41,
    He.glo_ok X G (c.fact 15 rfl),
    _, fd42, F42,
    He.glo_ok X G (c.fact 16 rfl),
    _, fd46, F46,
    He.glo_ok X G (c.fact 17 rfl),
    _, fd47, F47,
    He.glo_ok X G (c.fact 18 rfl),
    _, fd45, F45,
    He.glo_ok X G (c.fact 19 rfl),
    _, fd32_15, F32_15,
    He.meth_ok (c.fact 20 rfl),
    _, fd33, F33,
    He.glo_ok X G (c.fact 21 rfl),
    _, fd34, F34,
    He.glo_ok X G (c.fact 22 rfl),
    _, fd32_7, F32_7,
    He.meth_ok (c.fact 23 rfl),
    _, fd32_8, F32_8,
    He.meth_ok (c.fact 24 rfl),
    _, fd48, F48,
    He.glo_ok X G (c.fact 25 rfl),
    _, fd49, F49,
    He.glo_ok X G (c.fact 26 rfl),
    _, fd35, F35,
    He.glo_ok X G (c.fact 27 rfl),
    _, fd32_9, F32_9,
    He.meth_ok (c.fact 28 rfl),
    _, fd50, F50,
    He.glo_ok X G (c.fact 29 rfl),
    _, fd32_12, F32_12,
    He.meth_ok (c.fact 30 rfl),
    _, fd32_10, F32_10,
    He.meth_ok (c.fact 31 rfl),
    _, fd51, F51,
    He.glo_ok X G (c.fact 32 rfl),
    _, fd32_5, F32_5,
    propB_ok (c.test 0 rfl),
    _, fd32_4, F32_4,
    propB_ok (c.test 1 rfl),
    _, fd32_14, F32_14,
    He.meth_ok (c.fact 33 rfl),
    _, fd32_6, F32_6,
    propB_ok (c.test 2 rfl),
    _, fd32_16, F32_16,
    He.meth_ok (c.fact 34 rfl),
    _, fd32_1, F32_1,
    propB_ok (c.test 3 rfl),
    _, fd32_2, F32_2,
    propB_ok (c.test 4 rfl),
    _, fd32_3, F32_3,
    propB_ok (c.test 5 rfl),
    _, fd32_11, F32_11,
    He.meth_ok (c.fact 35 rfl),
    _, fd44, F44,
    He.glo_ok X G (c.fact 36 rfl),
    _, fd52, F52,
    He.glo_ok X G (c.fact 37 rfl),
    _, fd37, F37,
    He.glo_ok X G (c.fact 38 rfl),
    _, fd53, F53,
    He.glo_ok X G (c.fact 39 rfl),
    He.glo_ok X G (c.fact 40 rfl),
    He.glo_ok X G (c.fact 41 rfl),
    He.glo_ok X G (c.fact 42 rfl),
    He.glo_ok X G (c.fact 43 rfl),
    He.glo_ok X G (c.fact 44 rfl),
    He.glo_ok X G (c.fact 45 rfl),
    He.glo_ok X G (c.fact 46 rfl),
    He.glo_ok X G (c.fact 47 rfl),
    He.glo_ok X G (c.fact 48 rfl),
    He.cls_ok (c.fact 49 rfl),
    isiB_ok (He.cls_ok (c.fact 49 rfl)) (c.test 6 rfl),
    eqFB_ok (c.test 7 rfl),
    exc_of (c.fact 50 rfl),
    exc_of (c.fact 51 rfl),
    exc_of (c.fact 52 rfl),
    exc_of (c.fact 53 rfl),
    errI_ok exb_Index c (c.test 8 rfl) 46 rfl rfl (by decide +kernel) rfl rfl rfl (by decide +kernel) rfl rfl rfl rfl (fun _ _ _ _ => ⟨rfl, rfl, rfl, _, rfl⟩) (fun _ _ _ _ _ _ _ _ _ => rfl) (by decide) (by decide),
    errI_ok exb_Key c (c.test 9 rfl) 47 rfl rfl (by decide +kernel) rfl rfl rfl (by decide +kernel) rfl rfl rfl rfl (fun _ _ _ _ => ⟨rfl, rfl, rfl, _, rfl⟩) (fun _ _ _ _ _ _ _ _ _ => rfl) (by decide) (by decide),
    He.exm_ok (c.fact 54 rfl),
    He.exm_ok (c.fact 55 rfl),
    He.exm_ok (c.fact 56 rfl),
    He.exm_ok (c.fact 57 rfl),
    He.exm_ok (c.fact 58 rfl),
    He.exm_ok (c.fact 59 rfl),
    He.exm_ok (c.fact 60 rfl),
    He.exm_ok (c.fact 61 rfl),
    He.exm_ok (c.fact 62 rfl),
    He.exm_ok (c.fact 63 rfl),
    He.exm_ok (c.fact 64 rfl),
    He.exm_ok (c.fact 65 rfl),
    He.exm_ok (c.fact 66 rfl),
    He.exm_ok (c.fact 67 rfl),
    He.exm_ok (c.fact 68 rfl),
    He.exm_ok (c.fact 69 rfl),
    He.exm_ok (c.fact 70 rfl),
    He.exm_ok (c.fact 71 rfl),
    He.exm_ok (c.fact 72 rfl),
    He.exm_ok (c.fact 73 rfl),
    He.exm_ok (c.fact 74 rfl),
    He.exm_ok (c.fact 75 rfl),
    He.exm_ok (c.fact 76 rfl),
    He.exm_ok (c.fact 77 rfl),
    He.exm_ok (c.fact 78 rfl),
    He.exm_ok (c.fact 79 rfl),
    He.exm_ok (c.fact 80 rfl),
    He.exm_ok (c.fact 81 rfl),
    He.exm_ok (c.fact 82 rfl),
    He.exm_ok (c.fact 83 rfl),
    He.exm_ok (c.fact 84 rfl),
    He.exm_ok (c.fact 85 rfl),
    He.exm_ok (c.fact 86 rfl),
    He.exm_ok (c.fact 87 rfl),
    He.exm_ok (c.fact 88 rfl),
    He.exm_ok (c.fact 89 rfl),
    He.exm_ok (c.fact 90 rfl),
    He.exm_ok (c.fact 91 rfl),
    He.exm_ok (c.fact 92 rfl),
    He.exm_ok (c.fact 93 rfl),
    He.exm_ok (c.fact 94 rfl),
    He.exm_ok (c.fact 95 rfl),
    He.exm_ok (c.fact 96 rfl),
    He.exm_ok (c.fact 97 rfl),
    He.exm_ok (c.fact 98 rfl),
    He.exm_ok (c.fact 99 rfl),
    He.exm_ok (c.fact 100 rfl),
    He.exm_ok (c.fact 101 rfl),
    xfB_ok (c.test 10 rfl),
    xfB_ok (c.test 11 rfl),
    xfB_ok (c.test 12 rfl),
    noB_ok (c.test 13 rfl),
    noB_ok (c.test 14 rfl),
    noB_ok (c.test 15 rfl),
    tab_mg X G (c.test 16 rfl),
    tab_rep (c.test 16 rfl),
    c.test 17 rfl,
    lamF_ok X G rfl lb 0 rfl,
    lamF_ok X G rfl lb 1 rfl,
    lamF_ok X G rfl lb 2 rfl,
    lamF_ok X G rfl lb 3 rfl,
    ⟨He.cls_ok (c.fact 49 rfl), by simp only [List.forall_mem_cons, List.not_mem_nil, false_implies, implies_true, and_true]; exact He.noat_ok (c.fact 102 rfl)⟩,
    ⟨He.cls_ok (c.fact 49 rfl), by simp only [List.forall_mem_cons, List.not_mem_nil, false_implies, implies_true, and_true]; exact He.noat_ok (c.fact 103 rfl)⟩,
    ⟨He.cls_ok (c.fact 49 rfl), by simp only [List.forall_mem_cons, List.not_mem_nil, false_implies, implies_true, and_true]; exact He.noat_ok (c.fact 104 rfl)⟩,
    ⟨He.cls_ok (c.fact 49 rfl), by simp only [List.forall_mem_cons, List.not_mem_nil, false_implies, implies_true, and_true]; exact He.noat_ok (c.fact 105 rfl)⟩,
    ⟨He.cls_ok (c.fact 49 rfl), by simp only [List.forall_mem_cons, List.not_mem_nil, false_implies, implies_true, and_true]; exact He.noat_ok (c.fact 106 rfl)⟩,
    ⟨He.cls_ok (c.fact 49 rfl), by simp only [List.forall_mem_cons, List.not_mem_nil, false_implies, implies_true, and_true]; exact He.noat_ok (c.fact 107 rfl)⟩,
    t3, C3,
    t1, C1,
    t19, C19,
    t20, C20,
    t18, C18,
    t21, C21,
    t2, C2,
    He.free_ok X G (c.fact 115 rfl),
    He.free_ok X G (c.fact 116 rfl),
    He.free_ok X G (c.fact 117 rfl),
    He.free_ok X G (c.fact 118 rfl),
    He.free_ok X G (c.fact 119 rfl),
    He.free_ok X G (c.fact 120 rfl),
    He.free_ok X G (c.fact 121 rfl),
    He.free_ok X G (c.fact 122 rfl),
    He.free_ok X G (c.fact 123 rfl),
    He.free_ok X G (c.fact 124 rfl),
    He.free_ok X G (c.fact 125 rfl),
    He.free_ok X G (c.fact 126 rfl),
    He.free_ok X G (c.fact 127 rfl),
    He.free_ok X G (c.fact 128 rfl),
    He.free_ok X G (c.fact 129 rfl),
    He.free_ok X G (c.fact 130 rfl),
    He.free_ok X G (c.fact 131 rfl),
    He.free_ok X G (c.fact 132 rfl)⟩, rfl⟩
theorem holds (hm : ∀ (ad : Str → V) (ns : List Int), ns.length ≤ 63 → (∀ z ∈ ns, Builtin.Int.intBits z ≤ 1048576) → m_law_k11 ad [.frz (ns.map .int)] = .ok (.bl true)) : PySem.Challenge.rw_staystarts_k11_whole_edits_of_loops.Holds := by
  w_on; o_law
  refine HandSHeadRun.head_any (r := RR) (q := QQ) (H := hk) (ob := ob) (M := 8000) (loose := loose) (d := dd) (kwd := []) ob_eq b4 b5 run b6 b7 b8 b1 b9 b10 b2 ?hw ?hc
  case hw => w_witness2
  case hc =>
    refine walk_endA (l := PySem.Challenge.rw_staystarts_k11_whole_edits_of_loops) (n := 63) (k := 13) (x := "_law_script") (m := m_law_k11) (fun _ => rfl) rfl (by decide) b12 ⟨⟨rfl, by decide, by decide⟩, rfl⟩ (fun w K mg h f X G c lb D hmg0 => ?_) hm
    have hmg : mg ("law" : PySem.Str) = some (.ref f) := by
      rw [← b11]
      exact hmg0
    obtain ⟨T, hT⟩ := tx (w := w) X G c lb D
    have e : T.a53 = f := by
      have e1 := T.g53.symm.trans hmg
      cases e1
      rfl
    subst e
    have b := FunD.bindsA (ps := ["_law_script"]) T.f53 fun _ _ _ _ _ _ us hl => match us, hl with | [_], _ => rfl
    exact ⟨_, fun s v => b s [v] rfl, fun base => ok_law T⟩
end K11
namespace Mr
open PySem PySem.Spec PyProof.Rows L2
/-- of at most n bits -/
def Sz (n : Nat) (i : Int) : Prop := i.natAbs < 2 ^ n
section
variable {a b n k : Nat} {i j : Int}
theorem Sz.mono (h : Sz a i) (l : a ≤ b) : Sz b i := Nat.lt_of_lt_of_le h (Nat.pow_le_pow_right (by decide) l)
theorem Sz.neg (h : Sz a i) : Sz a (-i) := by unfold Sz at *; rw [Int.natAbs_neg]; exact h
theorem Sz.add (h : Sz a i) (h' : Sz b j) : Sz (max a b + 1) (i + j) := by
  have h1 := h.mono (Nat.le_max_left a b)
  have h2 := h'.mono (Nat.le_max_right a b)
  unfold Sz at *
  rw [Nat.pow_succ]
  have := Int.natAbs_add_le i j
  omega
theorem Sz.sub (h : Sz a i) (h' : Sz b j) : Sz (max a b + 1) (i - j) := by
  rw [Int.sub_eq_add_neg]; exact h.add h'.neg
theorem Sz.mul (h : Sz a i) (h' : Sz b j) : Sz (a + b) (i * j) := by
  unfold Sz at *
  rw [Int.natAbs_mul, Nat.pow_add]
  exact Nat.mul_lt_mul'' h h'
theorem Sz.bits (h : Sz a i) : Builtin.Int.intBits i ≤ a := PyProof.Rows.intBits_le h
theorem Sz.mulOk (h : Sz a i) (h' : Sz b j) (l : a + b ≤ 134217728) : mulOk i j := by
  have h1 := h.bits
  have h2 := h'.bits
  unfold Mr.mulOk
  omega
theorem Sz.lt (h : Sz a i) : i < ((2 ^ a : Nat) : Int) := by unfold Sz at h; omega
theorem Sz.gt (h : Sz a i) : -((2 ^ a : Nat) : Int) < i := by unfold Sz at h; omega
theorem Sz.of (h : -((2 ^ a : Nat) : Int) < i) (h' : i < ((2 ^ a : Nat) : Int)) : Sz a i := by unfold Sz; omega
theorem Sz.of_nat (h : 0 ≤ i) (h' : i < ((2 ^ a : Nat) : Int)) : Sz a i := by unfold Sz; omega
theorem Sz.of_abs (h : Sz a i) (h' : j.natAbs ≤ i.natAbs) : Sz a j := Nat.lt_of_le_of_lt h' h
theorem Sz.zero : Sz a 0 := by unfold Sz; exact Nat.two_pow_pos a
theorem Sz.one : Sz 1 1 := by unfold Sz; decide
theorem Sz.fmod (h : Sz b j) (hj : 0 < j) : Sz b (i.fmod j) := by
  have h1 := Int.fmod_nonneg_of_pos i hj
  have h2 := Int.fmod_lt_of_pos i hj
  unfold Sz at *
  omega
theorem Sz.divOk (h : Sz b j) (hj : j ≠ 0) (l : b ≤ 9000 := by decide) : divOk i j := by
  refine ⟨hj, ?_⟩
  unfold Builtin.divisionGoesByPylong
  have hl : j.natAbs.log2 < 9000 := by
    have h1 : j.natAbs ≠ 0 := by omega
    have := (Nat.log2_lt h1).mpr (Nat.lt_of_lt_of_le h (Nat.pow_le_pow_right (by decide) l))
    exact this
  have : ¬ ((j.natAbs.log2 / 30 + 1) > 300) := by omega
  simp only [Bool.and_eq_false_iff, decide_eq_false_iff_not]
  left
  split <;> omega
theorem Sz.sum : ∀ {xs : List Int} {k : Nat}, (∀ x ∈ xs, Sz a x) → xs.length ≤ 2 ^ k → Sz (a + k) xs.sum := by
  intro xs k h hl
  have main : ∀ ys : List Int, (∀ x ∈ ys, Sz a x) → ys.sum.natAbs ≤ ys.length * 2 ^ a := by
    intro ys
    induction ys with
    | nil => intro _; simp
    | cons y ys ih =>
      intro h
      have h1 := ih fun x hx => h x (List.mem_cons_of_mem _ hx)
      have h2 : y.natAbs < 2 ^ a := h y (List.mem_cons_self ..)
      rw [List.sum_cons, List.length_cons, Nat.succ_mul]
      have := Int.natAbs_add_le y ys.sum
      omega
  unfold Sz
  by_cases e : xs = []
  · subst e; simp [Nat.two_pow_pos]
  have h1 := main xs h
  have strict : xs.sum.natAbs < xs.length * 2 ^ a := by
    cases xs with
    | nil => exact absurd rfl e
    | cons y ys =>
      have h1 := main ys fun x hx => h x (List.mem_cons_of_mem _ hx)
      have h2 : y.natAbs < 2 ^ a := h y (List.mem_cons_self ..)
      rw [List.sum_cons, List.length_cons, Nat.succ_mul]
      have := Int.natAbs_add_le y ys.sum
      omega
  rw [Nat.pow_add, Nat.mul_comm (2 ^ a)]
  exact Nat.lt_of_lt_of_le strict (Nat.mul_le_mul_right _ hl)
theorem Sz.abs (h : Sz a i) : Sz a (if i < 0 then -i else i) := by
  split
  · exact h.neg
  · exact h
end

section
variable {α β : Type}
@[simp] theorem R.bind_ok (a : α) (ρ : Ro) (k : α → Ro → R β) : (R.ok a ρ).bind k = k a ρ := id rfl
@[simp] theorem R.bind_exc (a : Ex) (ρ : Ro) (k : α → Ro → R β) : (R.exc a ρ).bind k = .exc a ρ := id rfl
@[simp] theorem R.bind_stuck (k : α → Ro → R β) : (R.stuck).bind k = .stuck := id rfl
@[simp] theorem FR.lift_ok (a : α) (ρ : Ro) : (FR.ok a).lift ρ = .ok a ρ := id rfl
@[simp] theorem FR.lift_exc (a : Ex) (ρ : Ro) : (FR.exc a : FR α).lift ρ = .exc a ρ := id rfl
@[simp] theorem FR.lift_stuck (ρ : Ro) : (FR.stuck : FR α).lift ρ = .stuck := id rfl
@[simp] theorem R.nox_ok (a : α) (ρ : Ro) : (R.ok a ρ).nox = .ok a ρ := id rfl
end
section
variable {ρ : Ro} {a b c : M D} {g h : D → D → FR D} {u : D → FR D} {l : List D → FR D} {as : M (List D)} {t t' : M Bool} {d e : D} {i j : Nat}
@[simp] theorem ap_C : mC d ρ = .ok d ρ := id rfl
@[simp] theorem ap_Var0 {s : List SV} : mVar 0 (.val d :: s) = .ok d (.val d :: s) := id rfl
@[simp] theorem ap_Var1 {s0 : SV} {s : List SV} : mVar 1 (s0 :: .val d :: s) = .ok d (s0 :: .val d :: s) := id rfl
@[simp] theorem ap_Var2 {s0 s1 : SV} {s : List SV} : mVar 2 (s0 :: s1 :: .val d :: s) = .ok d (s0 :: s1 :: .val d :: s) := id rfl
@[simp] theorem ap_Var3 {s0 s1 s2 : SV} {s : List SV} : mVar 3 (s0 :: s1 :: s2 :: .val d :: s) = .ok d (s0 :: s1 :: s2 :: .val d :: s) := id rfl
@[simp] theorem ap_Var4 {s0 s1 s2 s3 : SV} {s : List SV} : mVar 4 (s0 :: s1 :: s2 :: s3 :: .val d :: s) = .ok d (s0 :: s1 :: s2 :: s3 :: .val d :: s) := id rfl
@[simp] theorem ap_Var5 {s0 s1 s2 s3 s4 : SV} {s : List SV} : mVar 5 (s0 :: s1 :: s2 :: s3 :: s4 :: .val d :: s) = .ok d (s0 :: s1 :: s2 :: s3 :: s4 :: .val d :: s) := id rfl
@[simp] theorem ap_Var6 {s0 s1 s2 s3 s4 s5 : SV} {s : List SV} : mVar 6 (s0 :: s1 :: s2 :: s3 :: s4 :: s5 :: .val d :: s) = .ok d (s0 :: s1 :: s2 :: s3 :: s4 :: s5 :: .val d :: s) := id rfl
@[simp] theorem ap_Var7 {s0 s1 s2 s3 s4 s5 s6 : SV} {s : List SV} : mVar 7 (s0 :: s1 :: s2 :: s3 :: s4 :: s5 :: s6 :: .val d :: s) = .ok d (s0 :: s1 :: s2 :: s3 :: s4 :: s5 :: s6 :: .val d :: s) := id rfl
@[simp] theorem ap_Var8 {s0 s1 s2 s3 s4 s5 s6 s7 : SV} {s : List SV} : mVar 8 (s0 :: s1 :: s2 :: s3 :: s4 :: s5 :: s6 :: s7 :: .val d :: s) = .ok d (s0 :: s1 :: s2 :: s3 :: s4 :: s5 :: s6 :: s7 :: .val d :: s) := id rfl
@[simp] theorem ap_Var9 {s0 s1 s2 s3 s4 s5 s6 s7 s8 : SV} {s : List SV} : mVar 9 (s0 :: s1 :: s2 :: s3 :: s4 :: s5 :: s6 :: s7 :: s8 :: .val d :: s) = .ok d (s0 :: s1 :: s2 :: s3 :: s4 :: s5 :: s6 :: s7 :: s8 :: .val d :: s) := id rfl
@[simp] theorem ap_Var10 {s0 s1 s2 s3 s4 s5 s6 s7 s8 s9 : SV} {s : List SV} : mVar 10 (s0 :: s1 :: s2 :: s3 :: s4 :: s5 :: s6 :: s7 :: s8 :: s9 :: .val d :: s) = .ok d (s0 :: s1 :: s2 :: s3 :: s4 :: s5 :: s6 :: s7 :: s8 :: s9 :: .val d :: s) := id rfl
@[simp] theorem ap_Var11 {s0 s1 s2 s3 s4 s5 s6 s7 s8 s9 s10 : SV} {s : List SV} : mVar 11 (s0 :: s1 :: s2 :: s3 :: s4 :: s5 :: s6 :: s7 :: s8 :: s9 :: s10 :: .val d :: s) = .ok d (s0 :: s1 :: s2 :: s3 :: s4 :: s5 :: s6 :: s7 :: s8 :: s9 :: s10 :: .val d :: s) := id rfl
@[simp] theorem ap_2 : m2 g a b ρ = (a ρ).bind fun x ρ => (b ρ).bind fun y ρ => (g x y).lift ρ := id rfl
@[simp] theorem ap_1 : m1 u a ρ = (a ρ).bind fun x ρ => (u x).lift ρ := id rfl
@[simp] theorem ap_L : mL l as ρ = (as ρ).bind fun xs ρ => (l xs).lift ρ := id rfl
@[simp] theorem ap_Nil : mNil ρ = .ok [] ρ := id rfl
@[simp] theorem ap_Cons : mCons a as ρ = (a ρ).bind fun x ρ => (as ρ).bind fun xs ρ => .ok (x :: xs) ρ := id rfl
@[simp] theorem ap_If : mIf t a b ρ = (t ρ).bind fun c ρ => bif c then a ρ else b ρ := by
  unfold mIf; congr; funext c ρ; cases c <;> rfl
@[simp] theorem ap_And : mAnd a b ρ = (a ρ).bind fun x ρ => match x with
  | .bl c => bif c then b ρ else .ok (.bl false) ρ
  | _ => .stuck := by
  unfold mAnd; congr; funext x ρ
  cases x with
  | bl c => cases c <;> rfl
  | _ => rfl
@[simp] theorem ap_Or : mOr a b ρ = (a ρ).bind fun x ρ => match x with
  | .bl c => bif c then .ok (.bl true) ρ else b ρ
  | _ => .stuck := by
  unfold mOr; congr; funext x ρ
  cases x with
  | bl c => cases c <;> rfl
  | _ => rfl
@[simp] theorem ap_Chain : mChain g h a b c ρ = (a ρ).bind fun x ρ => (b ρ).bind fun y ρ => ((g x y).lift ρ).bind fun z ρ => match z with
  | .bl k => bif k then (c ρ).bind fun w ρ => (h y w).lift ρ else .ok (.bl false) ρ
  | _ => .stuck := by
  unfold mChain; congr; funext x ρ; congr; funext y ρ; congr; funext z ρ
  cases z with
  | bl c => cases c <;> rfl
  | _ => rfl
@[simp] theorem ap_tOf : tOf a ρ = (a ρ).bind fun x ρ => match x with
  | .bl b => .ok b ρ
  | _ => .stuck := id rfl
@[simp] theorem ap_tNot : tNot t ρ = (t ρ).bind fun b ρ => .ok (!b) ρ := id rfl
@[simp] theorem ap_tAnd : tAnd t t' ρ = (t ρ).bind fun c ρ => bif c then t' ρ else .ok false ρ := by
  unfold tAnd; congr; funext c ρ; cases c <;> rfl
@[simp] theorem ap_tOr : tOr t t' ρ = (t ρ).bind fun c ρ => bif c then .ok true ρ else t' ρ := by
  unfold tOr; congr; funext c ρ; cases c <;> rfl
@[simp] theorem ap_tYes : tYesM ρ = .ok true ρ := id rfl
variable {x y : M Fl} {tg : Tg} {it : M (List D)}
@[simp] theorem ap_Nx : xNx ρ = .ok .nx ρ := id rfl
@[simp] theorem ap_Never : xNever ρ = .stuck := id rfl
@[simp] theorem ap_Bk : xBk ρ = .ok .bk ρ := id rfl
@[simp] theorem ap_Ct : xCt ρ = .ok .ct ρ := id rfl
@[simp] theorem ap_Seq : xSeq x y ρ = (x ρ).bind fun f ρ => match f with
  | .nx => y ρ
  | f => .ok f ρ := id rfl
@[simp] theorem ap_Ret : xRet a ρ = (a ρ).bind fun d ρ => .ok (.rt d) ρ := id rfl
@[simp] theorem ap_RetN : xRetN as ρ = (as ρ).bind fun d ρ => .ok (.rn d) ρ := id rfl
@[simp] theorem ap_xIf : xIf t x y ρ = (t ρ).bind fun c ρ => bif c then x ρ else y ρ := by
  unfold xIf; congr; funext c ρ; cases c <;> rfl
@[simp] theorem ap_Drop : xDrop a ρ = (a ρ).bind fun _ ρ => .ok .nx ρ := id rfl
@[simp] theorem ap_Put : xPut tg a ρ = (a ρ).bind fun d ρ => (putT tg d ρ).bind fun _ ρ => .ok .nx ρ := id rfl
@[simp] theorem ap_putS : putT (.sl i) d ρ = if (ρ.getD i .un).isIo = true then .stuck else .ok () (ρ.set i (.val d)) := by unfold putT; rfl
@[simp] theorem ap_putT {ts : List Tg} {xs : List D} : putT (.tp ts) (.tup xs) ρ = if xs.length = lenT ts then putTs ts xs ρ else .stuck := by rw [putT]
@[simp] theorem ap_putNil : putTs [] [] ρ = .ok () ρ := by unfold putTs; rfl
@[simp] theorem ap_putCons {t : Tg} {ts : List Tg} {xs : List D} : putTs (t :: ts) (d :: xs) ρ = (putT t d ρ).bind fun _ ρ => putTs ts xs ρ := by rw [putTs]
@[simp] theorem lenT_nil : lenT [] = 0 := by unfold lenT; rfl
@[simp] theorem lenT_cons {t : Tg} {ts : List Tg} : lenT (t :: ts) = lenT ts + 1 := by rw [lenT]
@[simp] theorem isIo_un : SV.un.isIo = false := id rfl
@[simp] theorem isIo_val : (SV.val d).isIo = false := id rfl
@[simp] theorem isIo_own {p : Bool} {xs : List D} : (SV.own p xs).isIo = p := id rfl
@[simp] theorem isOwn_un : SV.un.isOwn = false := id rfl
@[simp] theorem isOwn_val : (SV.val d).isOwn = false := id rfl
@[simp] theorem isOwn_own {p : Bool} {xs : List D} : (SV.own p xs).isOwn = true := id rfl
@[simp] theorem flag_own {p q : Bool} {xs : List D} : (SV.own p xs).flag q = .own q xs := id rfl
@[simp] theorem ap_Call {m : List D → FR D} {n : Nat} {dd : List D} : mCall m n dd as ρ = (as ρ).bind fun ds ρ => (if ds.length + dd.length = n then m (ds ++ dd) else .stuck).lift ρ := id rfl
@[simp] theorem ap_CallN {m : List D → FR (List D)} {n : Nat} : mCallN m n as ρ = (as ρ).bind fun ds ρ => (if ds.length = n then m ds else .stuck).lift ρ := id rfl
@[simp] theorem ap_OfN : mOfN as ρ = (as ρ).bind fun ds ρ => .ok (.lst ds) ρ := id rfl
@[simp] theorem ap_LstN : mLstN as ρ = (as ρ).bind fun ds ρ => if ds.length ≤ sizeLine then .ok ds ρ else .stuck := id rfl
@[simp] theorem ap_xOwn : xOwn i as ρ = (as ρ).bind fun ds ρ => if (ρ.getD i .un).isIo = true then .stuck else .ok .nx (ρ.set i (.own false ds)) := id rfl
@[simp] theorem ap_IxN0 {p : Bool} {xs : List D} {s : List SV} : mIxN 0 a (.own p xs :: s) = (a (.own p xs :: s)).bind fun i ρ => match ρ.getD 0 .un, i with
    | .own _ xs, .int k => match atI xs k with
      | some d => .ok d ρ
      | none => .stuck
    | _, _ => .stuck := id rfl
@[simp] theorem ap_SetIx0 : xSetIx 0 a b ρ = (a ρ).bind fun v ρ => match ρ.getD 0 .un with
  | .own _ _ => (b ρ).bind fun i ρ => match ρ.getD 0 .un, i with
    | .own p xs, .int k => match ixN xs.length k with
      | some n => .ok .nx (ρ.set 0 (.own p (xs.set n v)))
      | none => .stuck
    | _, _ => .stuck
  | _ => .stuck := id rfl
@[simp] theorem ap_Io {mi : SV → List D → IR} {n : Nat} (ho : (ρ.getD j .un).isOwn = true) : mIo mi n j as ρ = (as ρ).bind fun ds ρ =>
    if ds.length = n ∧ (ρ.getD j .un).isOwn = true then match mi ((ρ.getD j .un).flag true) ds with
      | .ok d sv => .ok d (ρ.set j (sv.flag (ρ.getD j .un).isIo))
      | .exc x sv => .exc x (ρ.set j (sv.flag (ρ.getD j .un).isIo))
      | .stuck => .stuck
    else .stuck := by unfold mIo; exact if_pos ho
@[simp] theorem ap_For : xFor it tg x ρ = (it ρ).bind fun ds ρ => forM tg x ds ρ := id rfl
theorem ap_forC {ds : List D} : forM tg x (d :: ds) ρ = (putT tg d ρ).bind fun _ ρ => (x ρ).bind fun f ρ => match f with
    | .nx => forM tg x ds ρ
    | .ct => forM tg x ds ρ
    | .bk => .ok .nx ρ
    | .rt r => .ok (.rt r) ρ
    | .rn r => .ok (.rn r) ρ := id rfl
@[simp] theorem ap_forN : forM tg x [] ρ = .ok .nx ρ := id rfl
@[simp] theorem ap_Walk : mWalk a ρ = (a ρ).bind fun x ρ => (walkD x).lift ρ := id rfl
@[simp] theorem ap_ItL {q : List D → FR (List D)} : mItL q as ρ = (as ρ).bind fun xs ρ => (q xs).lift ρ := id rfl
@[simp] theorem ap_Lc {vs : List Nat} : mLc it vs tg t a ρ = (it ρ).bind fun ds ρ => (lcM vs tg t a ds [] ρ).nox := id rfl
@[simp] theorem ap_Fld {c f : Str} : xFld j c f a ρ = (a ρ).bind fun d ρ => match ρ.getD j .un with
  | .ins p c' ns ds => if c' = c ∧ ns.length < 1000 then .ok .nx (ρ.set j (.ins p c (putN f ns) (putX f d ns ds))) else .stuck
  | _ => .stuck := id rfl
@[simp] theorem ap_Make {c : Str} {mi : SV → List D → IR} {n : Nat} {dd : List D} : mMake c mi n dd as ρ = (as ρ).bind fun ds ρ => if ds.length + dd.length = n then match mi (.ins true c [] []) (ds ++ dd) with
    | .ok .non (.ins _ c' ns xs) => if c' = c then .ok (.obj c ns xs) ρ else .stuck
    | .exc x _ => .exc x ρ
    | _ => .stuck
  else .stuck := id rfl
@[simp] theorem ap_ListN : mListN as ρ = (as ρ).bind fun ds ρ => (listN ds).lift ρ := id rfl
@[simp] theorem ap_BinN {q : D → D → FR (List D)} : mBinN q a b ρ = (a ρ).bind fun x ρ => (b ρ).bind fun y ρ => (q x y).lift ρ := id rfl
@[simp] theorem ap_Slice {lo hi : M (Option Int)} : mSlice a lo hi ρ = (a ρ).bind fun x ρ => (lo ρ).bind fun l ρ => (hi ρ).bind fun h ρ => (sliceD x l h).lift ρ := id rfl
@[simp] theorem ap_ONone : mONone ρ = .ok Option.none ρ := id rfl
@[simp] theorem ap_OSome : mOSome a ρ = (a ρ).bind fun d ρ => match d with
  | .int i => .ok (some i) ρ
  | _ => .stuck := id rfl
@[simp] theorem listN_l {xs : List D} : listN [.lst xs] = .ok xs := id rfl
@[simp] theorem listN_t {xs : List D} : listN [.tup xs] = .ok xs := id rfl
@[simp] theorem isIo_ins {p : Bool} {c : Str} {ns : List Str} {ds : List D} : (SV.ins p c ns ds).isIo = p := id rfl
@[simp] theorem isOwn_ins {p : Bool} {c : Str} {ns : List Str} {ds : List D} : (SV.ins p c ns ds).isOwn = true := id rfl
@[simp] theorem ap_App0 {p : Bool} {ys : List D} {s : List SV} : mApp 0 a (.own p ys :: s) = (a (.own p ys :: s)).bind fun v ρ => match ρ.getD 0 .un with
    | .own p xs => if xs.length < sizeLine then .ok .non (ρ.set 0 (.own p (xs ++ [v]))) else .stuck
    | _ => .stuck := id rfl
@[simp] theorem ap_Len0 {p : Bool} {ys : List D} {s : List SV} : mLenN 0 (.own p ys :: s) = .ok (.int ys.length) (.own p ys :: s) := id rfl
@[simp] theorem ap_PopAt0 {p : Bool} {ys : List D} {s : List SV} : mPopAt 0 a (.own p ys :: s) = (a (.own p ys :: s)).bind fun v ρ => match ρ.getD 0 .un, v with
    | .own p xs, .int i => match seqIndex? i xs.length with
      | some k => if I63 i then match xs[k]? with
        | some d => .ok d (ρ.set 0 (.own p (xs.eraseIdx k)))
        | none => .stuck
        else .stuck
      | none => .stuck
    | _, _ => .stuck := id rfl
@[simp] theorem ap_VarO0 {ys : List D} {s : List SV} : mVar 0 (.own false ys :: s) = .ok (.lst ys) (.val (.lst ys) :: s) := id rfl
@[simp] theorem ap_App1 {s0 : SV} {p : Bool} {ys : List D} {s : List SV} : mApp 1 a (s0 :: .own p ys :: s) = (a (s0 :: .own p ys :: s)).bind fun v ρ => match ρ.getD 1 .un with
    | .own p xs => if xs.length < sizeLine then .ok .non (ρ.set 1 (.own p (xs ++ [v]))) else .stuck
    | _ => .stuck := id rfl
@[simp] theorem ap_Len1 {s0 : SV} {p : Bool} {ys : List D} {s : List SV} : mLenN 1 (s0 :: .own p ys :: s) = .ok (.int ys.length) (s0 :: .own p ys :: s) := id rfl
@[simp] theorem ap_PopAt1 {s0 : SV} {p : Bool} {ys : List D} {s : List SV} : mPopAt 1 a (s0 :: .own p ys :: s) = (a (s0 :: .own p ys :: s)).bind fun v ρ => match ρ.getD 1 .un, v with
    | .own p xs, .int i => match seqIndex? i xs.length with
      | some k => if I63 i then match xs[k]? with
        | some d => .ok d (ρ.set 1 (.own p (xs.eraseIdx k)))
        | none => .stuck
        else .stuck
      | none => .stuck
    | _, _ => .stuck := id rfl
@[simp] theorem ap_VarO1 {s0 : SV} {ys : List D} {s : List SV} : mVar 1 (s0 :: .own false ys :: s) = .ok (.lst ys) (s0 :: .val (.lst ys) :: s) := id rfl
@[simp] theorem ap_App2 {s0 s1 : SV} {p : Bool} {ys : List D} {s : List SV} : mApp 2 a (s0 :: s1 :: .own p ys :: s) = (a (s0 :: s1 :: .own p ys :: s)).bind fun v ρ => match ρ.getD 2 .un with
    | .own p xs => if xs.length < sizeLine then .ok .non (ρ.set 2 (.own p (xs ++ [v]))) else .stuck
    | _ => .stuck := id rfl
@[simp] theorem ap_Len2 {s0 s1 : SV} {p : Bool} {ys : List D} {s : List SV} : mLenN 2 (s0 :: s1 :: .own p ys :: s) = .ok (.int ys.length) (s0 :: s1 :: .own p ys :: s) := id rfl
@[simp] theorem ap_PopAt2 {s0 s1 : SV} {p : Bool} {ys : List D} {s : List SV} : mPopAt 2 a (s0 :: s1 :: .own p ys :: s) = (a (s0 :: s1 :: .own p ys :: s)).bind fun v ρ => match ρ.getD 2 .un, v with
    | .own p xs, .int i => match seqIndex? i xs.length with
      | some k => if I63 i then match xs[k]? with
        | some d => .ok d (ρ.set 2 (.own p (xs.eraseIdx k)))
        | none => .stuck
        else .stuck
      | none => .stuck
    | _, _ => .stuck := id rfl
@[simp] theorem ap_VarO2 {s0 s1 : SV} {ys : List D} {s : List SV} : mVar 2 (s0 :: s1 :: .own false ys :: s) = .ok (.lst ys) (s0 :: s1 :: .val (.lst ys) :: s) := id rfl
@[simp] theorem ap_App3 {s0 s1 s2 : SV} {p : Bool} {ys : List D} {s : List SV} : mApp 3 a (s0 :: s1 :: s2 :: .own p ys :: s) = (a (s0 :: s1 :: s2 :: .own p ys :: s)).bind fun v ρ => match ρ.getD 3 .un with
    | .own p xs => if xs.length < sizeLine then .ok .non (ρ.set 3 (.own p (xs ++ [v]))) else .stuck
    | _ => .stuck := id rfl
@[simp] theorem ap_Len3 {s0 s1 s2 : SV} {p : Bool} {ys : List D} {s : List SV} : mLenN 3 (s0 :: s1 :: s2 :: .own p ys :: s) = .ok (.int ys.length) (s0 :: s1 :: s2 :: .own p ys :: s) := id rfl
@[simp] theorem ap_PopAt3 {s0 s1 s2 : SV} {p : Bool} {ys : List D} {s : List SV} : mPopAt 3 a (s0 :: s1 :: s2 :: .own p ys :: s) = (a (s0 :: s1 :: s2 :: .own p ys :: s)).bind fun v ρ => match ρ.getD 3 .un, v with
    | .own p xs, .int i => match seqIndex? i xs.length with
      | some k => if I63 i then match xs[k]? with
        | some d => .ok d (ρ.set 3 (.own p (xs.eraseIdx k)))
        | none => .stuck
        else .stuck
      | none => .stuck
    | _, _ => .stuck := id rfl
@[simp] theorem ap_VarO3 {s0 s1 s2 : SV} {ys : List D} {s : List SV} : mVar 3 (s0 :: s1 :: s2 :: .own false ys :: s) = .ok (.lst ys) (s0 :: s1 :: s2 :: .val (.lst ys) :: s) := id rfl
@[simp] theorem ap_App4 {s0 s1 s2 s3 : SV} {p : Bool} {ys : List D} {s : List SV} : mApp 4 a (s0 :: s1 :: s2 :: s3 :: .own p ys :: s) = (a (s0 :: s1 :: s2 :: s3 :: .own p ys :: s)).bind fun v ρ => match ρ.getD 4 .un with
    | .own p xs => if xs.length < sizeLine then .ok .non (ρ.set 4 (.own p (xs ++ [v]))) else .stuck
    | _ => .stuck := id rfl
@[simp] theorem ap_Len4 {s0 s1 s2 s3 : SV} {p : Bool} {ys : List D} {s : List SV} : mLenN 4 (s0 :: s1 :: s2 :: s3 :: .own p ys :: s) = .ok (.int ys.length) (s0 :: s1 :: s2 :: s3 :: .own p ys :: s) := id rfl
@[simp] theorem ap_PopAt4 {s0 s1 s2 s3 : SV} {p : Bool} {ys : List D} {s : List SV} : mPopAt 4 a (s0 :: s1 :: s2 :: s3 :: .own p ys :: s) = (a (s0 :: s1 :: s2 :: s3 :: .own p ys :: s)).bind fun v ρ => match ρ.getD 4 .un, v with
    | .own p xs, .int i => match seqIndex? i xs.length with
      | some k => if I63 i then match xs[k]? with
        | some d => .ok d (ρ.set 4 (.own p (xs.eraseIdx k)))
        | none => .stuck
        else .stuck
      | none => .stuck
    | _, _ => .stuck := id rfl
@[simp] theorem ap_VarO4 {s0 s1 s2 s3 : SV} {ys : List D} {s : List SV} : mVar 4 (s0 :: s1 :: s2 :: s3 :: .own false ys :: s) = .ok (.lst ys) (s0 :: s1 :: s2 :: s3 :: .val (.lst ys) :: s) := id rfl
@[simp] theorem ap_App5 {s0 s1 s2 s3 s4 : SV} {p : Bool} {ys : List D} {s : List SV} : mApp 5 a (s0 :: s1 :: s2 :: s3 :: s4 :: .own p ys :: s) = (a (s0 :: s1 :: s2 :: s3 :: s4 :: .own p ys :: s)).bind fun v ρ => match ρ.getD 5 .un with
    | .own p xs => if xs.length < sizeLine then .ok .non (ρ.set 5 (.own p (xs ++ [v]))) else .stuck
    | _ => .stuck := id rfl
@[simp] theorem ap_Len5 {s0 s1 s2 s3 s4 : SV} {p : Bool} {ys : List D} {s : List SV} : mLenN 5 (s0 :: s1 :: s2 :: s3 :: s4 :: .own p ys :: s) = .ok (.int ys.length) (s0 :: s1 :: s2 :: s3 :: s4 :: .own p ys :: s) := id rfl
@[simp] theorem ap_PopAt5 {s0 s1 s2 s3 s4 : SV} {p : Bool} {ys : List D} {s : List SV} : mPopAt 5 a (s0 :: s1 :: s2 :: s3 :: s4 :: .own p ys :: s) = (a (s0 :: s1 :: s2 :: s3 :: s4 :: .own p ys :: s)).bind fun v ρ => match ρ.getD 5 .un, v with
    | .own p xs, .int i => match seqIndex? i xs.length with
      | some k => if I63 i then match xs[k]? with
        | some d => .ok d (ρ.set 5 (.own p (xs.eraseIdx k)))
        | none => .stuck
        else .stuck
      | none => .stuck
    | _, _ => .stuck := id rfl
@[simp] theorem ap_VarO5 {s0 s1 s2 s3 s4 : SV} {ys : List D} {s : List SV} : mVar 5 (s0 :: s1 :: s2 :: s3 :: s4 :: .own false ys :: s) = .ok (.lst ys) (s0 :: s1 :: s2 :: s3 :: s4 :: .val (.lst ys) :: s) := id rfl
@[simp] theorem ap_App6 {s0 s1 s2 s3 s4 s5 : SV} {p : Bool} {ys : List D} {s : List SV} : mApp 6 a (s0 :: s1 :: s2 :: s3 :: s4 :: s5 :: .own p ys :: s) = (a (s0 :: s1 :: s2 :: s3 :: s4 :: s5 :: .own p ys :: s)).bind fun v ρ => match ρ.getD 6 .un with
    | .own p xs => if xs.length < sizeLine then .ok .non (ρ.set 6 (.own p (xs ++ [v]))) else .stuck
    | _ => .stuck := id rfl
@[simp] theorem ap_Len6 {s0 s1 s2 s3 s4 s5 : SV} {p : Bool} {ys : List D} {s : List SV} : mLenN 6 (s0 :: s1 :: s2 :: s3 :: s4 :: s5 :: .own p ys :: s) = .ok (.int ys.length) (s0 :: s1 :: s2 :: s3 :: s4 :: s5 :: .own p ys :: s) := id rfl
@[simp] theorem ap_PopAt6 {s0 s1 s2 s3 s4 s5 : SV} {p : Bool} {ys : List D} {s : List SV} : mPopAt 6 a (s0 :: s1 :: s2 :: s3 :: s4 :: s5 :: .own p ys :: s) = (a (s0 :: s1 :: s2 :: s3 :: s4 :: s5 :: .own p ys :: s)).bind fun v ρ => match ρ.getD 6 .un, v with
    | .own p xs, .int i => match seqIndex? i xs.length with
      | some k => if I63 i then match xs[k]? with
        | some d => .ok d (ρ.set 6 (.own p (xs.eraseIdx k)))
        | none => .stuck
        else .stuck
      | none => .stuck
    | _, _ => .stuck := id rfl
@[simp] theorem ap_VarO6 {s0 s1 s2 s3 s4 s5 : SV} {ys : List D} {s : List SV} : mVar 6 (s0 :: s1 :: s2 :: s3 :: s4 :: s5 :: .own false ys :: s) = .ok (.lst ys) (s0 :: s1 :: s2 :: s3 :: s4 :: s5 :: .val (.lst ys) :: s) := id rfl
@[simp] theorem ap_App7 {s0 s1 s2 s3 s4 s5 s6 : SV} {p : Bool} {ys : List D} {s : List SV} : mApp 7 a (s0 :: s1 :: s2 :: s3 :: s4 :: s5 :: s6 :: .own p ys :: s) = (a (s0 :: s1 :: s2 :: s3 :: s4 :: s5 :: s6 :: .own p ys :: s)).bind fun v ρ => match ρ.getD 7 .un with
    | .own p xs => if xs.length < sizeLine then .ok .non (ρ.set 7 (.own p (xs ++ [v]))) else .stuck
    | _ => .stuck := id rfl
@[simp] theorem ap_Len7 {s0 s1 s2 s3 s4 s5 s6 : SV} {p : Bool} {ys : List D} {s : List SV} : mLenN 7 (s0 :: s1 :: s2 :: s3 :: s4 :: s5 :: s6 :: .own p ys :: s) = .ok (.int ys.length) (s0 :: s1 :: s2 :: s3 :: s4 :: s5 :: s6 :: .own p ys :: s) := id rfl
@[simp] theorem ap_PopAt7 {s0 s1 s2 s3 s4 s5 s6 : SV} {p : Bool} {ys : List D} {s : List SV} : mPopAt 7 a (s0 :: s1 :: s2 :: s3 :: s4 :: s5 :: s6 :: .own p ys :: s) = (a (s0 :: s1 :: s2 :: s3 :: s4 :: s5 :: s6 :: .own p ys :: s)).bind fun v ρ => match ρ.getD 7 .un, v with
    | .own p xs, .int i => match seqIndex? i xs.length with
      | some k => if I63 i then match xs[k]? with
        | some d => .ok d (ρ.set 7 (.own p (xs.eraseIdx k)))
        | none => .stuck
        else .stuck
      | none => .stuck
    | _, _ => .stuck := id rfl
@[simp] theorem ap_VarO7 {s0 s1 s2 s3 s4 s5 s6 : SV} {ys : List D} {s : List SV} : mVar 7 (s0 :: s1 :: s2 :: s3 :: s4 :: s5 :: s6 :: .own false ys :: s) = .ok (.lst ys) (s0 :: s1 :: s2 :: s3 :: s4 :: s5 :: s6 :: .val (.lst ys) :: s) := id rfl
@[simp] theorem ap_App8 {s0 s1 s2 s3 s4 s5 s6 s7 : SV} {p : Bool} {ys : List D} {s : List SV} : mApp 8 a (s0 :: s1 :: s2 :: s3 :: s4 :: s5 :: s6 :: s7 :: .own p ys :: s) = (a (s0 :: s1 :: s2 :: s3 :: s4 :: s5 :: s6 :: s7 :: .own p ys :: s)).bind fun v ρ => match ρ.getD 8 .un with
    | .own p xs => if xs.length < sizeLine then .ok .non (ρ.set 8 (.own p (xs ++ [v]))) else .stuck
    | _ => .stuck := id rfl
@[simp] theorem ap_Len8 {s0 s1 s2 s3 s4 s5 s6 s7 : SV} {p : Bool} {ys : List D} {s : List SV} : mLenN 8 (s0 :: s1 :: s2 :: s3 :: s4 :: s5 :: s6 :: s7 :: .own p ys :: s) = .ok (.int ys.length) (s0 :: s1 :: s2 :: s3 :: s4 :: s5 :: s6 :: s7 :: .own p ys :: s) := id rfl
@[simp] theorem ap_PopAt8 {s0 s1 s2 s3 s4 s5 s6 s7 : SV} {p : Bool} {ys : List D} {s : List SV} : mPopAt 8 a (s0 :: s1 :: s2 :: s3 :: s4 :: s5 :: s6 :: s7 :: .own p ys :: s) = (a (s0 :: s1 :: s2 :: s3 :: s4 :: s5 :: s6 :: s7 :: .own p ys :: s)).bind fun v ρ => match ρ.getD 8 .un, v with
    | .own p xs, .int i => match seqIndex? i xs.length with
      | some k => if I63 i then match xs[k]? with
        | some d => .ok d (ρ.set 8 (.own p (xs.eraseIdx k)))
        | none => .stuck
        else .stuck
      | none => .stuck
    | _, _ => .stuck := id rfl
@[simp] theorem ap_VarO8 {s0 s1 s2 s3 s4 s5 s6 s7 : SV} {ys : List D} {s : List SV} : mVar 8 (s0 :: s1 :: s2 :: s3 :: s4 :: s5 :: s6 :: s7 :: .own false ys :: s) = .ok (.lst ys) (s0 :: s1 :: s2 :: s3 :: s4 :: s5 :: s6 :: s7 :: .val (.lst ys) :: s) := id rfl
@[simp] theorem ap_App9 {s0 s1 s2 s3 s4 s5 s6 s7 s8 : SV} {p : Bool} {ys : List D} {s : List SV} : mApp 9 a (s0 :: s1 :: s2 :: s3 :: s4 :: s5 :: s6 :: s7 :: s8 :: .own p ys :: s) = (a (s0 :: s1 :: s2 :: s3 :: s4 :: s5 :: s6 :: s7 :: s8 :: .own p ys :: s)).bind fun v ρ => match ρ.getD 9 .un with
    | .own p xs => if xs.length < sizeLine then .ok .non (ρ.set 9 (.own p (xs ++ [v]))) else .stuck
    | _ => .stuck := id rfl
@[simp] theorem ap_Len9 {s0 s1 s2 s3 s4 s5 s6 s7 s8 : SV} {p : Bool} {ys : List D} {s : List SV} : mLenN 9 (s0 :: s1 :: s2 :: s3 :: s4 :: s5 :: s6 :: s7 :: s8 :: .own p ys :: s) = .ok (.int ys.length) (s0 :: s1 :: s2 :: s3 :: s4 :: s5 :: s6 :: s7 :: s8 :: .own p ys :: s) := id rfl
@[simp] theorem ap_PopAt9 {s0 s1 s2 s3 s4 s5 s6 s7 s8 : SV} {p : Bool} {ys : List D} {s : List SV} : mPopAt 9 a (s0 :: s1 :: s2 :: s3 :: s4 :: s5 :: s6 :: s7 :: s8 :: .own p ys :: s) = (a (s0 :: s1 :: s2 :: s3 :: s4 :: s5 :: s6 :: s7 :: s8 :: .own p ys :: s)).bind fun v ρ => match ρ.getD 9 .un, v with
    | .own p xs, .int i => match seqIndex? i xs.length with
      | some k => if I63 i then match xs[k]? with
        | some d => .ok d (ρ.set 9 (.own p (xs.eraseIdx k)))
        | none => .stuck
        else .stuck
      | none => .stuck
    | _, _ => .stuck := id rfl
@[simp] theorem ap_VarO9 {s0 s1 s2 s3 s4 s5 s6 s7 s8 : SV} {ys : List D} {s : List SV} : mVar 9 (s0 :: s1 :: s2 :: s3 :: s4 :: s5 :: s6 :: s7 :: s8 :: .own false ys :: s) = .ok (.lst ys) (s0 :: s1 :: s2 :: s3 :: s4 :: s5 :: s6 :: s7 :: s8 :: .val (.lst ys) :: s) := id rfl
@[simp] theorem ap_App10 {s0 s1 s2 s3 s4 s5 s6 s7 s8 s9 : SV} {p : Bool} {ys : List D} {s : List SV} : mApp 10 a (s0 :: s1 :: s2 :: s3 :: s4 :: s5 :: s6 :: s7 :: s8 :: s9 :: .own p ys :: s) = (a (s0 :: s1 :: s2 :: s3 :: s4 :: s5 :: s6 :: s7 :: s8 :: s9 :: .own p ys :: s)).bind fun v ρ => match ρ.getD 10 .un with
    | .own p xs => if xs.length < sizeLine then .ok .non (ρ.set 10 (.own p (xs ++ [v]))) else .stuck
    | _ => .stuck := id rfl
@[simp] theorem ap_Len10 {s0 s1 s2 s3 s4 s5 s6 s7 s8 s9 : SV} {p : Bool} {ys : List D} {s : List SV} : mLenN 10 (s0 :: s1 :: s2 :: s3 :: s4 :: s5 :: s6 :: s7 :: s8 :: s9 :: .own p ys :: s) = .ok (.int ys.length) (s0 :: s1 :: s2 :: s3 :: s4 :: s5 :: s6 :: s7 :: s8 :: s9 :: .own p ys :: s) := id rfl
@[simp] theorem ap_PopAt10 {s0 s1 s2 s3 s4 s5 s6 s7 s8 s9 : SV} {p : Bool} {ys : List D} {s : List SV} : mPopAt 10 a (s0 :: s1 :: s2 :: s3 :: s4 :: s5 :: s6 :: s7 :: s8 :: s9 :: .own p ys :: s) = (a (s0 :: s1 :: s2 :: s3 :: s4 :: s5 :: s6 :: s7 :: s8 :: s9 :: .own p ys :: s)).bind fun v ρ => match ρ.getD 10 .un, v with
    | .own p xs, .int i => match seqIndex? i xs.length with
      | some k => if I63 i then match xs[k]? with
        | some d => .ok d (ρ.set 10 (.own p (xs.eraseIdx k)))
        | none => .stuck
        else .stuck
      | none => .stuck
    | _, _ => .stuck := id rfl
@[simp] theorem ap_VarO10 {s0 s1 s2 s3 s4 s5 s6 s7 s8 s9 : SV} {ys : List D} {s : List SV} : mVar 10 (s0 :: s1 :: s2 :: s3 :: s4 :: s5 :: s6 :: s7 :: s8 :: s9 :: .own false ys :: s) = .ok (.lst ys) (s0 :: s1 :: s2 :: s3 :: s4 :: s5 :: s6 :: s7 :: s8 :: s9 :: .val (.lst ys) :: s) := id rfl
@[simp] theorem ap_App11 {s0 s1 s2 s3 s4 s5 s6 s7 s8 s9 s10 : SV} {p : Bool} {ys : List D} {s : List SV} : mApp 11 a (s0 :: s1 :: s2 :: s3 :: s4 :: s5 :: s6 :: s7 :: s8 :: s9 :: s10 :: .own p ys :: s) = (a (s0 :: s1 :: s2 :: s3 :: s4 :: s5 :: s6 :: s7 :: s8 :: s9 :: s10 :: .own p ys :: s)).bind fun v ρ => match ρ.getD 11 .un with
    | .own p xs => if xs.length < sizeLine then .ok .non (ρ.set 11 (.own p (xs ++ [v]))) else .stuck
    | _ => .stuck := id rfl
@[simp] theorem ap_Len11 {s0 s1 s2 s3 s4 s5 s6 s7 s8 s9 s10 : SV} {p : Bool} {ys : List D} {s : List SV} : mLenN 11 (s0 :: s1 :: s2 :: s3 :: s4 :: s5 :: s6 :: s7 :: s8 :: s9 :: s10 :: .own p ys :: s) = .ok (.int ys.length) (s0 :: s1 :: s2 :: s3 :: s4 :: s5 :: s6 :: s7 :: s8 :: s9 :: s10 :: .own p ys :: s) := id rfl
@[simp] theorem ap_PopAt11 {s0 s1 s2 s3 s4 s5 s6 s7 s8 s9 s10 : SV} {p : Bool} {ys : List D} {s : List SV} : mPopAt 11 a (s0 :: s1 :: s2 :: s3 :: s4 :: s5 :: s6 :: s7 :: s8 :: s9 :: s10 :: .own p ys :: s) = (a (s0 :: s1 :: s2 :: s3 :: s4 :: s5 :: s6 :: s7 :: s8 :: s9 :: s10 :: .own p ys :: s)).bind fun v ρ => match ρ.getD 11 .un, v with
    | .own p xs, .int i => match seqIndex? i xs.length with
      | some k => if I63 i then match xs[k]? with
        | some d => .ok d (ρ.set 11 (.own p (xs.eraseIdx k)))
        | none => .stuck
        else .stuck
      | none => .stuck
    | _, _ => .stuck := id rfl
@[simp] theorem ap_VarO11 {s0 s1 s2 s3 s4 s5 s6 s7 s8 s9 s10 : SV} {ys : List D} {s : List SV} : mVar 11 (s0 :: s1 :: s2 :: s3 :: s4 :: s5 :: s6 :: s7 :: s8 :: s9 :: s10 :: .own false ys :: s) = .ok (.lst ys) (s0 :: s1 :: s2 :: s3 :: s4 :: s5 :: s6 :: s7 :: s8 :: s9 :: s10 :: .val (.lst ys) :: s) := id rfl
@[simp] theorem ap_App12 {s0 s1 s2 s3 s4 s5 s6 s7 s8 s9 s10 s11 : SV} {p : Bool} {ys : List D} {s : List SV} : mApp 12 a (s0 :: s1 :: s2 :: s3 :: s4 :: s5 :: s6 :: s7 :: s8 :: s9 :: s10 :: s11 :: .own p ys :: s) = (a (s0 :: s1 :: s2 :: s3 :: s4 :: s5 :: s6 :: s7 :: s8 :: s9 :: s10 :: s11 :: .own p ys :: s)).bind fun v ρ => match ρ.getD 12 .un with
    | .own p xs => if xs.length < sizeLine then .ok .non (ρ.set 12 (.own p (xs ++ [v]))) else .stuck
    | _ => .stuck := id rfl
@[simp] theorem ap_Len12 {s0 s1 s2 s3 s4 s5 s6 s7 s8 s9 s10 s11 : SV} {p : Bool} {ys : List D} {s : List SV} : mLenN 12 (s0 :: s1 :: s2 :: s3 :: s4 :: s5 :: s6 :: s7 :: s8 :: s9 :: s10 :: s11 :: .own p ys :: s) = .ok (.int ys.length) (s0 :: s1 :: s2 :: s3 :: s4 :: s5 :: s6 :: s7 :: s8 :: s9 :: s10 :: s11 :: .own p ys :: s) := id rfl
@[simp] theorem ap_PopAt12 {s0 s1 s2 s3 s4 s5 s6 s7 s8 s9 s10 s11 : SV} {p : Bool} {ys : List D} {s : List SV} : mPopAt 12 a (s0 :: s1 :: s2 :: s3 :: s4 :: s5 :: s6 :: s7 :: s8 :: s9 :: s10 :: s11 :: .own p ys :: s) = (a (s0 :: s1 :: s2 :: s3 :: s4 :: s5 :: s6 :: s7 :: s8 :: s9 :: s10 :: s11 :: .own p ys :: s)).bind fun v ρ => match ρ.getD 12 .un, v with
    | .own p xs, .int i => match seqIndex? i xs.length with
      | some k => if I63 i then match xs[k]? with
        | some d => .ok d (ρ.set 12 (.own p (xs.eraseIdx k)))
        | none => .stuck
        else .stuck
      | none => .stuck
    | _, _ => .stuck := id rfl
@[simp] theorem ap_VarO12 {s0 s1 s2 s3 s4 s5 s6 s7 s8 s9 s10 s11 : SV} {ys : List D} {s : List SV} : mVar 12 (s0 :: s1 :: s2 :: s3 :: s4 :: s5 :: s6 :: s7 :: s8 :: s9 :: s10 :: s11 :: .own false ys :: s) = .ok (.lst ys) (s0 :: s1 :: s2 :: s3 :: s4 :: s5 :: s6 :: s7 :: s8 :: s9 :: s10 :: s11 :: .val (.lst ys) :: s) := id rfl
@[simp] theorem ap_Var12 {s0 s1 s2 s3 s4 s5 s6 s7 s8 s9 s10 s11 : SV} {s : List SV} : mVar 12 (s0 :: s1 :: s2 :: s3 :: s4 :: s5 :: s6 :: s7 :: s8 :: s9 :: s10 :: s11 :: .val d :: s) = .ok d (s0 :: s1 :: s2 :: s3 :: s4 :: s5 :: s6 :: s7 :: s8 :: s9 :: s10 :: s11 :: .val d :: s) := id rfl
@[simp] theorem ap_Var13 {s0 s1 s2 s3 s4 s5 s6 s7 s8 s9 s10 s11 s12 : SV} {s : List SV} : mVar 13 (s0 :: s1 :: s2 :: s3 :: s4 :: s5 :: s6 :: s7 :: s8 :: s9 :: s10 :: s11 :: s12 :: .val d :: s) = .ok d (s0 :: s1 :: s2 :: s3 :: s4 :: s5 :: s6 :: s7 :: s8 :: s9 :: s10 :: s11 :: s12 :: .val d :: s) := id rfl
@[simp] theorem ap_Var14 {s0 s1 s2 s3 s4 s5 s6 s7 s8 s9 s10 s11 s12 s13 : SV} {s : List SV} : mVar 14 (s0 :: s1 :: s2 :: s3 :: s4 :: s5 :: s6 :: s7 :: s8 :: s9 :: s10 :: s11 :: s12 :: s13 :: .val d :: s) = .ok d (s0 :: s1 :: s2 :: s3 :: s4 :: s5 :: s6 :: s7 :: s8 :: s9 :: s10 :: s11 :: s12 :: s13 :: .val d :: s) := id rfl
@[simp] theorem ap_Var15 {s0 s1 s2 s3 s4 s5 s6 s7 s8 s9 s10 s11 s12 s13 s14 : SV} {s : List SV} : mVar 15 (s0 :: s1 :: s2 :: s3 :: s4 :: s5 :: s6 :: s7 :: s8 :: s9 :: s10 :: s11 :: s12 :: s13 :: s14 :: .val d :: s) = .ok d (s0 :: s1 :: s2 :: s3 :: s4 :: s5 :: s6 :: s7 :: s8 :: s9 :: s10 :: s11 :: s12 :: s13 :: s14 :: .val d :: s) := id rfl
@[simp] theorem ap_Var16 {s0 s1 s2 s3 s4 s5 s6 s7 s8 s9 s10 s11 s12 s13 s14 s15 : SV} {s : List SV} : mVar 16 (s0 :: s1 :: s2 :: s3 :: s4 :: s5 :: s6 :: s7 :: s8 :: s9 :: s10 :: s11 :: s12 :: s13 :: s14 :: s15 :: .val d :: s) = .ok d (s0 :: s1 :: s2 :: s3 :: s4 :: s5 :: s6 :: s7 :: s8 :: s9 :: s10 :: s11 :: s12 :: s13 :: s14 :: s15 :: .val d :: s) := id rfl
@[simp] theorem ap_Var17 {s0 s1 s2 s3 s4 s5 s6 s7 s8 s9 s10 s11 s12 s13 s14 s15 s16 : SV} {s : List SV} : mVar 17 (s0 :: s1 :: s2 :: s3 :: s4 :: s5 :: s6 :: s7 :: s8 :: s9 :: s10 :: s11 :: s12 :: s13 :: s14 :: s15 :: s16 :: .val d :: s) = .ok d (s0 :: s1 :: s2 :: s3 :: s4 :: s5 :: s6 :: s7 :: s8 :: s9 :: s10 :: s11 :: s12 :: s13 :: s14 :: s15 :: s16 :: .val d :: s) := id rfl
@[simp] theorem ap_Var18 {s0 s1 s2 s3 s4 s5 s6 s7 s8 s9 s10 s11 s12 s13 s14 s15 s16 s17 : SV} {s : List SV} : mVar 18 (s0 :: s1 :: s2 :: s3 :: s4 :: s5 :: s6 :: s7 :: s8 :: s9 :: s10 :: s11 :: s12 :: s13 :: s14 :: s15 :: s16 :: s17 :: .val d :: s) = .ok d (s0 :: s1 :: s2 :: s3 :: s4 :: s5 :: s6 :: s7 :: s8 :: s9 :: s10 :: s11 :: s12 :: s13 :: s14 :: s15 :: s16 :: s17 :: .val d :: s) := id rfl
@[simp] theorem ap_Var19 {s0 s1 s2 s3 s4 s5 s6 s7 s8 s9 s10 s11 s12 s13 s14 s15 s16 s17 s18 : SV} {s : List SV} : mVar 19 (s0 :: s1 :: s2 :: s3 :: s4 :: s5 :: s6 :: s7 :: s8 :: s9 :: s10 :: s11 :: s12 :: s13 :: s14 :: s15 :: s16 :: s17 :: s18 :: .val d :: s) = .ok d (s0 :: s1 :: s2 :: s3 :: s4 :: s5 :: s6 :: s7 :: s8 :: s9 :: s10 :: s11 :: s12 :: s13 :: s14 :: s15 :: s16 :: s17 :: s18 :: .val d :: s) := id rfl
@[simp] theorem ap_Par {fs : M (List D)} : xPar i j fs ρ = (fs ρ).bind fun ds ρ => match ds with
  | [d, e] => (putT (.sl i) d ρ).bind fun _ ρ => (putT (.sl j) e ρ).bind fun _ ρ => .ok .nx ρ
  | _ => .stuck := id rfl
end
section
variable {i j : Int} {x y d e : D} {xs ys : List D} {n m : Nat}
@[simp] theorem op_addI : addD (.int i) (.int j) = .ok (.int (i + j)) := id rfl
@[simp] theorem op_subI : subD (.int i) (.int j) = .ok (.int (i - j)) := id rfl
theorem op_mulI (h : mulOk i j) : mulD (.int i) (.int j) = .ok (.int (i * j)) := if_pos h
theorem op_divI (h : divOk i j) : divD (.int i) (.int j) = .ok (.int (i.fdiv j)) := if_pos h
theorem op_modI (h : j ≠ 0) : modD (.int i) (.int j) = .ok (.int (i.fmod j)) := if_pos h
@[simp] theorem op_negI : negD (.int i) = .ok (.int (-i)) := id rfl
@[simp] theorem op_ltI : ltD (.int i) (.int j) = .ok (.bl (decide (i < j))) := id rfl
@[simp] theorem op_leI : leD (.int i) (.int j) = .ok (.bl (decide (i ≤ j))) := id rfl
@[simp] theorem op_gtI : gtD (.int i) (.int j) = .ok (.bl (decide (j < i))) := id rfl
@[simp] theorem op_geI : geD (.int i) (.int j) = .ok (.bl (decide (j ≤ i))) := id rfl
@[simp] theorem op_notB {b : Bool} : notD (.bl b) = .ok (.bl (!b)) := id rfl
@[simp] theorem op_eqII : eqD (.int i) (.int j) = .ok (.bl (decide (i = j))) := by
  unfold eqD eqv; simp [okD, py, PyData.eqv]; rfl
@[simp] theorem op_neII : neD (.int i) (.int j) = .ok (.bl (!decide (i = j))) := by
  unfold neD eqv; simp [okD, py, PyData.eqv]; rfl
theorem eqv_self (h : okD n x = true) : eqv x x = true := PySem.SeqAt.eqv_refl_plain _ (okD_py n x h).1
theorem op_eqS (h : okD 12 x = true) : eqD x x = .ok (.bl true) := by
  unfold eqD; rw [if_pos ⟨h, h⟩, eqv_self h]
theorem op_neS (h : okD 12 x = true) : neD x x = .ok (.bl false) := by
  unfold neD; rw [if_pos ⟨h, h⟩, eqv_self h]; rfl
@[simp] theorem okD_int : okD n (.int i) = true := by unfold okD; rfl
@[simp] theorem okD_str {z : Str} : okD n (.str z) = true := by unfold okD; rfl
@[simp] theorem okD_bl {b : Bool} : okD n (.bl b) = true := by unfold okD; rfl
@[simp] theorem okD_non : okD n .non = true := by unfold okD; rfl
@[simp] theorem okDs_nil : okDs n [] = true := by unfold okDs; rfl
@[simp] theorem okDs_cons : okDs n (x :: xs) = (okD n x && okDs n xs) := by rw [okDs]
@[simp] theorem okD_tup : okD (n + 1) (.tup xs) = okDs n xs := by rw [okD]
@[simp] theorem okD_lst : okD (n + 1) (.lst xs) = okDs n xs := by rw [okD]
@[simp] theorem okDs_ints : ∀ {ns : List Int}, okDs n (ns.map .int) = true
  | [] => by simp
  | a :: r => by simp [okDs_ints (ns := r)]
theorem okDs_all : ∀ {l : List D}, (∀ z ∈ l, okD n z = true) → okDs n l = true
  | [], _ => by simp
  | a :: r, h => by simp [h a (List.mem_cons_self ..), okDs_all (l := r) fun z hz => h z (List.mem_cons_of_mem _ hz)]
@[simp] theorem op_lenT : lenD [.tup xs] = .ok (.int xs.length) := id rfl
@[simp] theorem op_lenL : lenD [.lst xs] = .ok (.int xs.length) := id rfl
@[simp] theorem op_lenF : lenD [.frz xs] = .ok (.int xs.length) := id rfl
@[simp] theorem op_sum {ns : List Int} : sumD [.lst (ns.map .int)] = .ok (.int ns.sum) := by unfold sumD; simp only [intsD_map]
@[simp] theorem op_all {bs : List Bool} : allD [.lst (bs.map .bl)] = .ok (.bl (bs.all id)) := by unfold allD; simp only [blsD_map]
@[simp] theorem op_any {bs : List Bool} : anyD [.lst (bs.map .bl)] = .ok (.bl (bs.any id)) := by unfold anyD; simp only [blsD_map]
@[simp] theorem op_tupleL : tupleD [.lst xs] = .ok (.tup xs) := id rfl
@[simp] theorem op_tupleT : tupleD [.tup xs] = .ok (.tup xs) := id rfl
@[simp] theorem op_listL : listD [.lst xs] = .ok (.lst xs) := id rfl
@[simp] theorem op_listT : listD [.tup xs] = .ok (.lst xs) := id rfl
@[simp] theorem op_intI : intD [.int i] = .ok (.int i) := id rfl
@[simp] theorem op_intB {b : Bool} : intD [.bl b] = .ok (.int (if b then 1 else 0)) := id rfl
@[simp] theorem op_absI : absD [.int i] = .ok (.int (if i < 0 then -i else i)) := id rfl
@[simp] theorem op_max : max2D [.int i, .int j] = .ok (.int (if j > i then j else i)) := id rfl
@[simp] theorem op_min : min2D [.int i, .int j] = .ok (.int (if j < i then j else i)) := id rfl
@[simp] theorem op_isiII : isiD [.int i, .opq (.ty "int")] = .ok (.bl true) := id rfl
@[simp] theorem op_isiIB : isiD [.int i, .opq (.ty "bool")] = .ok (.bl false) := id rfl
@[simp] theorem op_isiTT : isiD [.tup xs, .opq (.ty "tuple")] = .ok (.bl true) := id rfl
@[simp] theorem op_isiSint {z : Str} : isiD [.str z, .opq (.ty "int")] = .ok (.bl false) := id rfl
@[simp] theorem op_isiSbool {z : Str} : isiD [.str z, .opq (.ty "bool")] = .ok (.bl false) := id rfl
@[simp] theorem op_isiSS {z : Str} : isiD [.str z, .opq (.ty "str")] = .ok (.bl true) := id rfl
@[simp] theorem op_isiStuple {z : Str} : isiD [.str z, .opq (.ty "tuple")] = .ok (.bl false) := id rfl
@[simp] theorem op_isiSlist {z : Str} : isiD [.str z, .opq (.ty "list")] = .ok (.bl false) := id rfl
@[simp] theorem op_isiSdict {z : Str} : isiD [.str z, .opq (.ty "dict")] = .ok (.bl false) := id rfl
@[simp] theorem op_isiTint : isiD [.tup xs, .opq (.ty "int")] = .ok (.bl false) := id rfl
@[simp] theorem op_isiTbool : isiD [.tup xs, .opq (.ty "bool")] = .ok (.bl false) := id rfl
@[simp] theorem op_isiTstr : isiD [.tup xs, .opq (.ty "str")] = .ok (.bl false) := id rfl
@[simp] theorem op_isiTlist : isiD [.tup xs, .opq (.ty "list")] = .ok (.bl false) := id rfl
@[simp] theorem op_isiTdict : isiD [.tup xs, .opq (.ty "dict")] = .ok (.bl false) := id rfl
@[simp] theorem op_isiLint : isiD [.lst xs, .opq (.ty "int")] = .ok (.bl false) := id rfl
@[simp] theorem op_isiLbool : isiD [.lst xs, .opq (.ty "bool")] = .ok (.bl false) := id rfl
@[simp] theorem op_isiLstr : isiD [.lst xs, .opq (.ty "str")] = .ok (.bl false) := id rfl
@[simp] theorem op_isiLtuple : isiD [.lst xs, .opq (.ty "tuple")] = .ok (.bl false) := id rfl
@[simp] theorem op_isiLlist : isiD [.lst xs, .opq (.ty "list")] = .ok (.bl true) := id rfl
@[simp] theorem op_isiLdict : isiD [.lst xs, .opq (.ty "dict")] = .ok (.bl false) := id rfl
@[simp] theorem op_isiIstr : isiD [.int i, .opq (.ty "str")] = .ok (.bl false) := id rfl
@[simp] theorem op_isiItuple : isiD [.int i, .opq (.ty "tuple")] = .ok (.bl false) := id rfl
@[simp] theorem op_isiIlist : isiD [.int i, .opq (.ty "list")] = .ok (.bl false) := id rfl
@[simp] theorem op_isiIdict : isiD [.int i, .opq (.ty "dict")] = .ok (.bl false) := id rfl
@[simp] theorem op_isiBint {b : Bool} : isiD [.bl b, .opq (.ty "int")] = .ok (.bl true) := id rfl
@[simp] theorem op_isiBbool {b : Bool} : isiD [.bl b, .opq (.ty "bool")] = .ok (.bl true) := id rfl
@[simp] theorem op_isiBstr {b : Bool} : isiD [.bl b, .opq (.ty "str")] = .ok (.bl false) := id rfl
@[simp] theorem op_isiBtuple {b : Bool} : isiD [.bl b, .opq (.ty "tuple")] = .ok (.bl false) := id rfl
@[simp] theorem op_isiBlist {b : Bool} : isiD [.bl b, .opq (.ty "list")] = .ok (.bl false) := id rfl
@[simp] theorem op_isiBdict {b : Bool} : isiD [.bl b, .opq (.ty "dict")] = .ok (.bl false) := id rfl
@[simp] theorem op_isiNint : isiD [.non, .opq (.ty "int")] = .ok (.bl false) := id rfl
@[simp] theorem op_isiNbool : isiD [.non, .opq (.ty "bool")] = .ok (.bl false) := id rfl
@[simp] theorem op_isiNstr : isiD [.non, .opq (.ty "str")] = .ok (.bl false) := id rfl
@[simp] theorem op_isiNtuple : isiD [.non, .opq (.ty "tuple")] = .ok (.bl false) := id rfl
@[simp] theorem op_isiNlist : isiD [.non, .opq (.ty "list")] = .ok (.bl false) := id rfl
@[simp] theorem op_isiNdict : isiD [.non, .opq (.ty "dict")] = .ok (.bl false) := id rfl
@[simp] theorem op_isiEint {ks : List Key} {ds : List D} : isiD [.dct ks ds, .opq (.ty "int")] = .ok (.bl false) := id rfl
@[simp] theorem op_isiEbool {ks : List Key} {ds : List D} : isiD [.dct ks ds, .opq (.ty "bool")] = .ok (.bl false) := id rfl
@[simp] theorem op_isiEstr {ks : List Key} {ds : List D} : isiD [.dct ks ds, .opq (.ty "str")] = .ok (.bl false) := id rfl
@[simp] theorem op_isiEtuple {ks : List Key} {ds : List D} : isiD [.dct ks ds, .opq (.ty "tuple")] = .ok (.bl false) := id rfl
@[simp] theorem op_isiElist {ks : List Key} {ds : List D} : isiD [.dct ks ds, .opq (.ty "list")] = .ok (.bl false) := id rfl
@[simp] theorem op_isiEdict {ks : List Key} {ds : List D} : isiD [.dct ks ds, .opq (.ty "dict")] = .ok (.bl true) := id rfl
@[simp] theorem op_isnt1 : isntD .non .non = .ok (.bl false) := id rfl
@[simp] theorem op_isnt2 : isntD (.int i) .non = .ok (.bl true) := id rfl
@[simp] theorem op_is1 : isD .non .non = .ok (.bl true) := id rfl
@[simp] theorem op_is2 : isD (.int i) .non = .ok (.bl false) := id rfl
@[simp] theorem op_is3 : isD (.tup xs) .non = .ok (.bl false) := id rfl
@[simp] theorem op_isnt3 : isntD (.tup xs) .non = .ok (.bl true) := id rfl
theorem atI_nat {α : Type} {l : List α} {k : Nat} : atI l (k : Int) = l[k]? := by
  unfold atI ixN
  rw [if_pos (by omega : 0 ≤ (k : Int))]
  by_cases h : k < l.length
  · rw [if_pos (by omega)]; simp
  · rw [if_neg (by omega)]; simp; omega
theorem ixD_tup {k : Nat} (h : xs[k]? = some d) : ixD (.tup xs) (.int k) = .ok d := by
  unfold ixD; simp only [atI_nat, h]
theorem ixD_lst {k : Nat} (h : xs[k]? = some d) : ixD (.lst xs) (.int k) = .ok d := by
  unfold ixD; simp only [atI_nat, h]
theorem ixD_frz {k : Nat} (h : xs[k]? = some d) : ixD (.frz xs) (.int k) = .ok d := by
  unfold ixD; simp only [atI_nat, h]
@[simp] theorem ix_l0 : ixD (.lst (x :: xs)) (.int 0) = .ok x := ixD_lst (k := 0) rfl
@[simp] theorem ix_l1 : ixD (.lst (x :: y :: xs)) (.int 1) = .ok y := ixD_lst (k := 1) rfl
@[simp] theorem ix_l2 : ixD (.lst (x :: y :: d :: xs)) (.int 2) = .ok d := ixD_lst (k := 2) rfl
@[simp] theorem ix_t0 : ixD (.tup (x :: xs)) (.int 0) = .ok x := ixD_tup (k := 0) rfl
@[simp] theorem ix_t1 : ixD (.tup (x :: y :: xs)) (.int 1) = .ok y := ixD_tup (k := 1) rfl
@[simp] theorem ix_t2 : ixD (.tup (x :: y :: d :: xs)) (.int 2) = .ok d := ixD_tup (k := 2) rfl
theorem tupD_of (h : xs.length ≤ sizeLine) : tupD xs = .ok (.tup xs) := if_pos h
theorem lstD_of (h : xs.length ≤ sizeLine) : lstD xs = .ok (.lst xs) := if_pos h
@[simp] theorem walk_lst : walkD (.lst xs) = .ok xs := id rfl
@[simp] theorem walk_frz : walkD (.frz xs) = .ok xs := id rfl
@[simp] theorem walk_tup : walkD (.tup xs) = .ok xs := id rfl
@[simp] theorem zip_tt : zipD [.tup xs, .tup ys] = .ok (xs.zipWith (fun x y => .tup [x, y]) ys) := id rfl
@[simp] theorem zip_ll : zipD [.lst xs, .lst ys] = .ok (xs.zipWith (fun x y => .tup [x, y]) ys) := id rfl
theorem range1_of (h : 0 ≤ i) (h' : i ≤ 1000000000) : range1D [.int i] = .ok ((List.range i.toNat).map fun (k : Nat) => .int k) := by
  have e : range1D [.int i] = if I62 i then .ok (rangeD 0 i) else .stuck := id rfl
  rw [e, if_pos ⟨by omega, by omega⟩]
  unfold rangeD
  simp
end
section
variable {ρ : Ro} {t : Tg} {el : M D} {i j : Nat}
@[simp] theorem plainR_nil : plainR ρ [] = true := id rfl
@[simp] theorem plainR_cons {v : Nat} {vs : List Nat} : plainR ρ (v :: vs) = (!(ρ.getD v .un).isFar && plainR ρ vs) := id rfl
@[simp] theorem isFar_un : SV.un.isFar = false := id rfl
@[simp] theorem isFar_val : (SV.val d).isFar = false := id rfl
@[simp] theorem isFar_own {p : Bool} {xs : List D} : (SV.own p xs).isFar = true := id rfl
@[simp] theorem isFar_ins {p : Bool} {c : Str} {ns : List Str} {ds : List D} : (SV.ins p c ns ds).isFar = true := id rfl
@[simp] theorem isIo_pin : SV.pin.isIo = true := id rfl
@[simp] theorem isFar_pin : SV.pin.isFar = true := id rfl
@[simp] theorem isOwn_pin : SV.pin.isOwn = false := id rfl
@[simp] theorem freeR_nil : freeR ρ [] = true := id rfl
@[simp] theorem freeR_cons {v : Nat} {vs : List Nat} : freeR ρ (v :: vs) = (!(ρ.getD v .un).isIo && freeR ρ vs) := id rfl
@[simp] theorem wipeR_nil : wipeR ρ [] = ρ := id rfl
@[simp] theorem wipeR_cons {v : Nat} {vs : List Nat} : wipeR ρ (v :: vs) = (wipeR ρ vs).set v .un := id rfl
@[simp] theorem backR_nil {ρ0 : Ro} : backR ρ0 ρ [] = ρ := id rfl
@[simp] theorem backR_cons {ρ0 : Ro} {v : Nat} {vs : List Nat} : backR ρ0 ρ (v :: vs) = (backR ρ0 ρ vs).set v (ρ0.getD v .un) := id rfl
end
section
variable {t : Tg} {el : M D} {vs : List Nat}
/-- one turn of a comprehension -/
def turnM (vs : List Nat) (t : Tg) (el : M D) (ρ : Ro) (d : D) : R D := (putT t d (wipeR ρ vs)).bind fun _ ρ1 => (el ρ1).bind fun y ρ3 => bif freeR ρ3 vs then .ok y (backR ρ ρ3 vs) else .stuck
theorem turnM_ok {ρ ρ' : Ro} {d y : D} (h : turnM vs t el ρ d = .ok y ρ') : ∃ ρ1 ρ3, putT t d (wipeR ρ vs) = .ok () ρ1 ∧ el ρ1 = .ok y ρ3 ∧ freeR ρ3 vs = true ∧ backR ρ ρ3 vs = ρ' := by
  unfold turnM at h
  cases e : putT t d (wipeR ρ vs) with
  | ok u ρ1 =>
    rw [e, R.bind_ok] at h
    cases e2 : el ρ1 with
    | ok z ρ3 =>
      rw [e2, R.bind_ok] at h
      cases e3 : freeR ρ3 vs with
      | true => rw [e3] at h; cases h; exact ⟨_, _, rfl, e2, e3, rfl⟩
      | false => rw [e3] at h; cases h
    | exc x ρ3 => rw [e2] at h; cases h
    | stuck => rw [e2] at h; cases h
  | exc x ρ3 => rw [e] at h; cases h
  | stuck => rw [e] at h; cases h
theorem lcM_map {β : Type} {ρ : Ro} (g : β → D) (l : List β) (F : β → D) (hp : plainR ρ vs = true) (hl : l.length ≤ sizeLine) (h : ∀ x ∈ l, turnM vs t el ρ (g x) = .ok (F x) ρ) :
    lcM vs t tYesM el (l.map g) [] ρ = .ok (l.map F) ρ := by
  have main : ∀ (l : List β) (acc : List D), l.length + acc.length ≤ sizeLine → (∀ x ∈ l, turnM vs t el ρ (g x) = .ok (F x) ρ) → lcM vs t tYesM el (l.map g) acc ρ = .ok (acc ++ l.map F) ρ := by
    intro l
    induction l with
    | nil => intro acc _ _; simp [lcM]
    | cons d ds ih =>
      intro acc hl h
      obtain ⟨ρ1, ρ3, e1, e2, e3, e4⟩ := turnM_ok (h d (List.mem_cons_self ..))
      rw [List.length_cons] at hl
      rw [List.map_cons, lcM, if_pos hp, e1, R.bind_ok, ap_tYes, R.bind_ok, if_pos rfl, e2, R.bind_ok, if_pos ⟨by omega, e3⟩, e4]
      rw [ih (acc ++ [F d]) (by rw [List.length_append, List.length_singleton]; omega) fun z hz => h z (List.mem_cons_of_mem _ hz)]
      simp
  have := main l [] (by simpa using hl) h
  simpa using this
/-- turns that change the slots: I n holds behind n of them -/
theorem lcM_run2 {I : Nat → Ro → Prop} {P : D → Prop} : ∀ (ds : List D) (acc : List D) (n : Nat) (ρ : Ro), ds.length + acc.length ≤ sizeLine → I n ρ →
    (∀ d ∈ ds, ∀ k ρ, n ≤ k → k < n + ds.length → I k ρ → plainR ρ vs = true ∧ ∃ y ρ', turnM vs t el ρ d = .ok y ρ' ∧ I (k + 1) ρ' ∧ P y) →
    ∃ ys ρ', lcM vs t tYesM el ds acc ρ = .ok (acc ++ ys) ρ' ∧ I (n + ds.length) ρ' ∧ ys.length = ds.length ∧ ∀ y ∈ ys, P y
  | [], acc, n, ρ, _, h0, _ => ⟨[], ρ, by simp [lcM], h0, rfl, by simp⟩
  | d :: ds, acc, n, ρ, hl, h0, h => by
    rw [List.length_cons] at hl h
    obtain ⟨hp, y, ρ', e, h1, py⟩ := h d (List.mem_cons_self ..) n ρ (Nat.le_refl _) (by omega) h0
    obtain ⟨ρ1, ρ3, e1, e2, e3, e4⟩ := turnM_ok e
    obtain ⟨ys, ρ'', f, i, l, p⟩ := lcM_run2 ds (acc ++ [y]) (n + 1) ρ' (by rw [List.length_append, List.length_singleton]; omega) h1 fun z hz k ρ a b i => h z (List.mem_cons_of_mem _ hz) k ρ (by omega) (by omega) i
    refine ⟨y :: ys, ρ'', ?_, by rw [List.length_cons, show n + (ds.length + 1) = n + 1 + ds.length by omega]; exact i, by simp [l], fun z hz => ?_⟩
    · rw [lcM, if_pos hp, e1, R.bind_ok, ap_tYes, R.bind_ok, if_pos rfl, e2, R.bind_ok, if_pos ⟨by omega, e3⟩, e4, f]
      simp
    · rcases List.mem_cons.mp hz with e | e
      · rw [e]; exact py
      · exact p z e
theorem ints_of {p : Int → Prop} : ∀ {ys : List D}, (∀ y ∈ ys, ∃ k, y = .int k ∧ p k) → ∃ ks : List Int, ys = ks.map .int ∧ ∀ k ∈ ks, p k
  | [], _ => ⟨[], rfl, by simp⟩
  | y :: ys, h => by
    obtain ⟨k, e, q⟩ := h y (List.mem_cons_self ..)
    obtain ⟨ks, e2, q2⟩ := ints_of fun z hz => h z (List.mem_cons_of_mem _ hz)
    exact ⟨k :: ks, by rw [e, e2]; rfl, fun z hz => by
      rcases List.mem_cons.mp hz with e | e
      · rw [e]; exact q
      · exact q2 z e⟩
/-- a for's turn -/
def turnF (t : Tg) (body : M Fl) (ρ : Ro) (d : D) : R Fl := (putT t d ρ).bind fun _ ρ => body ρ
@[simp] theorem op_sumF {β : Type} {l : List β} {f : β → Int} : sumD [.lst (l.map fun x => .int (f x))] = .ok (.int (l.map f).sum) := by
  have := op_sum (ns := l.map f)
  rw [List.map_map] at this
  exact this
@[simp] theorem op_sumZ {β γ : Type} {l : List β} {l' : List γ} {f : β → γ → Int} : sumD [.lst (l.zipWith (fun x y => .int (f x y)) l')] = .ok (.int (l.zipWith f l').sum) := by
  have := op_sum (ns := l.zipWith f l')
  rw [List.map_zipWith] at this
  exact this
@[simp] theorem op_allF {β : Type} {l : List β} {f : β → Bool} : allD [.lst (l.map fun x => .bl (f x))] = .ok (.bl (l.all f)) := by
  have := op_all (bs := l.map f)
  rw [List.map_map] at this
  rw [show (List.map (fun x => D.bl (f x)) l) = List.map (D.bl ∘ f) l from rfl, this]
  simp
@[simp] theorem op_anyF {β : Type} {l : List β} {f : β → Bool} : anyD [.lst (l.map fun x => .bl (f x))] = .ok (.bl (l.any f)) := by
  have := op_any (bs := l.map f)
  rw [List.map_map] at this
  rw [show (List.map (fun x => D.bl (f x)) l) = List.map (D.bl ∘ f) l from rfl, this]
  simp
@[simp] theorem okDs_intF {β : Type} {n : Nat} {f : β → Int} {l : List β} : okDs n (l.map fun x => .int (f x)) = true := okDs_all fun z hz => by
  obtain ⟨x, _, e⟩ := List.mem_map.mp hz
  rw [← e]; simp
@[simp] theorem okDs_intZ {β γ : Type} {n : Nat} {f : β → γ → Int} {l : List β} {l' : List γ} : okDs n (l.zipWith (fun x y => .int (f x y)) l') = true := by
  have := okDs_ints (n := n) (ns := l.zipWith f l')
  rw [List.map_zipWith] at this
  exact this
end
section
variable {t : Tg} {c : M Bool} {el : M D} {vs : List Nat}
/-- one turn with a test -/
def turnO (vs : List Nat) (t : Tg) (c : M Bool) (el : M D) (ρ : Ro) (d : D) : R (Option D) := (putT t d (wipeR ρ vs)).bind fun _ ρ1 => (c ρ1).bind fun k ρ2 =>
  bif k then (el ρ2).bind fun y ρ3 => bif freeR ρ3 vs then .ok (some y) (backR ρ ρ3 vs) else .stuck
  else bif freeR ρ2 vs then .ok none (backR ρ ρ2 vs) else .stuck
theorem lcM_step {ρ ρ' : Ro} {d : D} {o : Option D} {ds acc : List D} (hp : plainR ρ vs = true) (hl : acc.length < sizeLine) (h : turnO vs t c el ρ d = .ok o ρ') :
    lcM vs t c el (d :: ds) acc ρ = lcM vs t c el ds (acc ++ o.toList) ρ' := by
  unfold turnO at h
  rw [lcM, if_pos hp]
  cases e1 : putT t d (wipeR ρ vs) with
  | ok u ρ1 =>
    rw [e1, R.bind_ok] at h
    rw [R.bind_ok]
    cases e2 : c ρ1 with
    | ok k ρ2 =>
      rw [e2, R.bind_ok] at h
      rw [R.bind_ok]
      cases k with
      | true =>
        rw [if_pos rfl]
        have h : ((el ρ2).bind fun y ρ3 => bif freeR ρ3 vs then R.ok (some y) (backR ρ ρ3 vs) else .stuck) = .ok o ρ' := h
        cases e3 : el ρ2 with
        | ok y ρ3 =>
          rw [e3, R.bind_ok] at h
          rw [R.bind_ok]
          cases e4 : freeR ρ3 vs with
          | true => rw [e4] at h; cases h; rw [if_pos ⟨hl, rfl⟩]; rfl
          | false => rw [e4] at h; cases h
        | exc x ρ3 => rw [e3] at h; cases h
        | stuck => rw [e3] at h; cases h
      | false =>
        rw [if_neg Bool.false_ne_true]
        have h : (bif freeR ρ2 vs then R.ok (none : Option D) (backR ρ ρ2 vs) else .stuck) = .ok o ρ' := h
        cases e4 : freeR ρ2 vs with
        | true => rw [e4] at h; cases h; rw [if_pos rfl]; simp
        | false => rw [e4] at h; cases h
    | exc x ρ3 => rw [e2] at h; cases h
    | stuck => rw [e2] at h; cases h
  | exc x ρ3 => rw [e1] at h; cases h
  | stuck => rw [e1] at h; cases h
/-- turns that leave the slots as they are -/
theorem lcM_opt {β : Type} {ρ : Ro} (g : β → D) (l : List β) (F : β → Option D) (hp : plainR ρ vs = true) (hl : l.length ≤ sizeLine) (h : ∀ x ∈ l, turnO vs t c el ρ (g x) = .ok (F x) ρ) :
    lcM vs t c el (l.map g) [] ρ = .ok (l.filterMap F) ρ := by
  have main : ∀ (l : List β) (acc : List D), l.length + acc.length ≤ sizeLine → (∀ x ∈ l, turnO vs t c el ρ (g x) = .ok (F x) ρ) → lcM vs t c el (l.map g) acc ρ = .ok (acc ++ l.filterMap F) ρ := by
    intro l
    induction l with
    | nil => intro acc _ _; simp [lcM]
    | cons d ds ih =>
      intro acc hl h
      rw [List.length_cons] at hl
      rw [List.map_cons, lcM_step hp (by omega) (h d (List.mem_cons_self ..))]
      have l1 : (F d).toList.length ≤ 1 := by cases F d <;> simp
      rw [ih _ (by rw [List.length_append]; omega) fun z hz => h z (List.mem_cons_of_mem _ hz)]
      cases e : F d <;> simp [e]
  have := main l [] (by simpa using hl) h
  simpa using this
end
end Mr
namespace Mr
open PySem PySem.Spec PyProof.Rows L2
theorem op_pow {i j : Int} {a : Nat} (h0 : 0 ≤ j) (h : Sz a i) (l : (a : Int) * j ≤ 2 ^ 27) : powD (.int i) (.int j) = .ok (.int (i ^ j.toNat)) := by
  have h1 := h.bits
  refine if_pos ⟨h0, ?_⟩
  have : (Builtin.Int.intBits i : Int) * j ≤ (a : Int) * j := Int.mul_le_mul_of_nonneg_right (by omega) h0
  omega
theorem sz_ten : Sz 4 10 := by unfold Sz; decide
def T18 : Int := 10 ^ 18
def T19 : Int := 10 ^ 19
def T60 : Int := 10 ^ 60
def T61 : Int := 10 ^ 61
def T671 : Int := 10 ^ 671
theorem sz_T61 : Sz 203 T61 := by unfold Sz T61; decide
theorem sz_T671 : Sz 2300 T671 := by unfold Sz T671; decide
theorem pos_T18 : 0 < T18 := by unfold T18; decide
theorem pos_T671 : 0 < T671 := by unfold T671; decide
@[simp] theorem pow_18 : powD (.int 10) (.int 18) = .ok (.int T18) := op_pow (by decide) sz_ten (by decide)
@[simp] theorem pow_19 : powD (.int 10) (.int 19) = .ok (.int T19) := op_pow (by decide) sz_ten (by decide)
@[simp] theorem pow_60 : powD (.int 10) (.int 60) = .ok (.int T60) := op_pow (by decide) sz_ten (by decide)
@[simp] theorem pow_61 : powD (.int 10) (.int 61) = .ok (.int T61) := op_pow (by decide) sz_ten (by decide)
@[simp] theorem pow_671 : powD (.int T61) (.int 11) = .ok (.int T671) := by
  rw [op_pow (by decide) sz_T61 (by decide)]
  have : T61 ^ (11 : Int).toNat = T671 := by unfold T61 T671; decide
  rw [this]
def B_bowl : M Fl :=
  (xSeq (xPut (.sl 2) (mIf (tOf (m2 ltD (mVar 1) (mL lenD (mCons (mVar 0) mNil)))) (m2 ixD (mVar 0) (mVar 1)) (m2 addD (m2 mulD (mC (.int 61)) (mVar 1)) (mC (.int 31)))))
  (xSeq (xPut (.sl 3) (m2 modD (mL intD (mCons (mL absD (mCons (mVar 2) mNil)) mNil)) (m2 powD (m2 powD (mC (.int 10)) (mC (.int 61))) (mC (.int 11)))))
  (xSeq (xPut (.sl 4) (m2 addD (m2 addD (m2 addD (m2 mulD (m2 modD (mL intD (mCons (mVar 3) mNil)) (mC (.int 2147483269))) (mC (.int 95273))) (m2 mulD (mC (.int 9403)) (mVar 1))) (m2 mulD (mC (.int 43)) (mL intD (mCons (m2 ltD (mVar 2) (mC (.int 0))) mNil)))) (mC (.int 71))))
  (xRetN (mLstN (mCons (mL max2D (mCons (mC (.int 0)) (mCons (m2 subD (mVar 3) (m2 powD (mC (.int 10)) (mC (.int 18)))) mNil))) (mCons (m2 modD (mL intD (mCons (mVar 4) mNil)) (mC (.int 2305843009213693907))) (mCons (mC (.int 0)) mNil))))))))
/-- a bowl from which at most n were drawn -/
def Bowl (n : Nat) (xs : List D) : Prop := ∃ a b c : Int, xs = [.int a, .int b, .int c] ∧ 0 ≤ a ∧ Sz 2300 a ∧ 0 ≤ b ∧ Sz 61 b ∧ 0 ≤ c ∧ c ≤ n
theorem Bowl.mono {n m : Nat} {xs : List D} (h : Bowl n xs) (l : n ≤ m) : Bowl m xs := by
  obtain ⟨a, b, c, rfl, a0, a1, b0, b1, c0, c1⟩ := h
  exact ⟨a, b, c, rfl, a0, a1, b0, b1, c0, by omega⟩
theorem mulOkS {i j : Int} {a b : Nat} (h : Sz a i) (h' : Sz b j) (l : a + b ≤ 134217728 := by decide) : mulOk i j := h.mulOk h' l
theorem sz_small {i : Int} (h0 : 0 ≤ i) (h1 : i < 18446744073709551616) : Sz 64 i := Sz.of_nat h0 h1
theorem E_bowl {ns : List Int} {k : Nat} (hk : k < 64) : ∃ xs, runN 5 B_bowl [.frz (ns.map .int), .int k] = .ok xs ∧ Bowl 0 xs := by
  obtain ⟨c, hc⟩ : ∃ c : Int, (k < ns.length ∧ (ns.map D.int)[k]? = some (.int c)) ∨ (¬ k < ns.length ∧ mulOk 61 k ∧ c = 61 * k + 31) := by
    by_cases h : k < ns.length
    · exact ⟨ns[k], .inl ⟨h, by simp [h]⟩⟩
    · exact ⟨61 * k + 31, .inr ⟨h, mulOkS (a := 64) (b := 64) (sz_small (by decide) (by decide)) (sz_small (by omega) (by omega)), rfl⟩⟩
  have hg1 : (0:Int) ≤ (if c < 0 then -c else c).fmod T671 := Int.fmod_nonneg_of_pos _ pos_T671
  have hg2 : Sz 2300 ((if c < 0 then -c else c).fmod T671) := sz_T671.fmod pos_T671
  obtain ⟨g, hg⟩ : ∃ g, g = (if c < 0 then -c else c).fmod T671 := ⟨_, rfl⟩
  rw [← hg] at hg1 hg2
  have b1 := Int.fmod_nonneg_of_pos g (show (0:Int) < 2147483269 by decide)
  have b2 := Int.fmod_lt_of_pos g (show (0:Int) < 2147483269 by decide)
  have m1 : mulOk (g.fmod 2147483269) 95273 := mulOkS (a := 64) (b := 64) (sz_small b1 (by omega)) (sz_small (by decide) (by decide))
  have m2 : mulOk 9403 k := mulOkS (a := 64) (b := 64) (sz_small (by decide) (by decide)) (sz_small (by omega) (by omega))
  have m3 : mulOk 43 (if c < 0 then 1 else 0) := mulOkS (a := 64) (b := 64) (sz_small (by decide) (by decide)) (by split <;> exact sz_small (by decide) (by decide))
  have m4 : T671 ≠ 0 := by have := pos_T671; omega
  refine ⟨[.int (if g - T18 > 0 then g - T18 else 0), .int (((((g.fmod 2147483269) * 95273) + 9403 * k) + 43 * (if c < 0 then 1 else 0) + 71).fmod 2305843009213693907), .int 0], ?_, ?_⟩
  · unfold runN B_bowl
    rcases hc with ⟨h, e⟩ | ⟨h, m0, rfl⟩
    · simp [h, ixD_frz e, op_modI m4, ← hg, op_modI, op_mulI m1, op_mulI m2, op_mulI m3, sizeLine_eq]
    · simp [h, op_mulI m0, op_modI m4, ← hg, op_modI, op_mulI m1, op_mulI m2, op_mulI m3, sizeLine_eq]
  · refine ⟨_, _, _, rfl, ?_, ?_, ?_, ?_, ?_, ?_⟩
    · split <;> omega
    · split
      · refine hg2.of_abs ?_
        have := pos_T18
        omega
      · exact Sz.zero
    · exact Int.fmod_nonneg_of_pos _ (by decide)
    · exact Sz.fmod (by unfold Sz; decide) (by decide)
    · decide
    · decide
def B_bit : M Fl :=
  (xSeq (xIf (tOf (m2 gtD (mIxN 0 (mC (.int 0))) (mC (.int 0)))) (xSeq (xPut (.sl 4) (m2 modD (mL intD (mCons (mIxN 0 (mC (.int 0))) mNil)) (mVar 1)))
  (xSeq (xSetIx 0 (m2 divD (mIxN 0 (mC (.int 0))) (mVar 1)) (mC (.int 0)))
  (xRet (mVar 4)))) xNx)
  (xSeq (xSetIx 0 (m2 addD (mIxN 0 (mC (.int 2))) (mC (.int 1))) (mC (.int 2)))
  (xSeq (xPut (.sl 2) (m2 modD (mL intD (mCons (m2 addD (mIxN 0 (mC (.int 1))) (m2 mulD (mC (.int 1000427)) (mIxN 0 (mC (.int 2))))) mNil)) (mC (.int 2305843009213693951))))
  (xSeq (xPut (.sl 3) (m2 addD (m2 mulD (m2 modD (mL intD (mCons (m2 mulD (mVar 2) (mVar 2)) mNil)) (mC (.int 2305843009213693921))) (mVar 2)) (m2 mulD (mC (.int 9091)) (mIxN 0 (mC (.int 2))))))
  (xRet (m2 modD (mL intD (mCons (m2 divD (m2 modD (mL intD (mCons (mVar 3) mNil)) (mC (.int 2305843009213693907))) (mC (.int 16384))) mNil)) (mVar 1)))))))
@[simp] theorem at0 {a b c : D} : atI [a, b, c] 0 = some a := id rfl
@[simp] theorem at1 {a b c : D} : atI [a, b, c] 1 = some b := id rfl
@[simp] theorem at2 {a b c : D} : atI [a, b, c] 2 = some c := id rfl
@[simp] theorem ix0' : ixN 3 0 = some 0 := id rfl
@[simp] theorem ix2' : ixN 3 2 = some 2 := id rfl
/-- a draw: 0 to m - 1 -/
theorem E_bit {xs : List D} {n : Nat} {m : Int} (h : Bowl n xs) (hm : 0 < m) (hs : Sz 9000 m) (hn : n < 1000000) : ∃ (k : Int) (ys : List D), runI 5 B_bit (.own true xs) [.int m] = .ok (.int k) (.own true ys) ∧ 0 ≤ k ∧ k < m ∧ Bowl (n + 1) ys := by
  obtain ⟨a, b, c, rfl, a0, a1, b0, b1, c0, c1⟩ := h
  have hm0 : m ≠ 0 := by omega
  by_cases ha : 0 < a
  · refine ⟨a.fmod m, [.int (a.fdiv m), .int b, .int c], ?_, Int.fmod_nonneg_of_pos _ hm, Int.fmod_lt_of_pos _ hm, _, _, _, rfl, ?_, ?_, b0, b1, c0, by omega⟩
    · unfold runI B_bit
      simp [ha, op_modI hm0, op_divI (hs.divOk hm0)]
    · exact Int.fdiv_nonneg a0 (by omega)
    · refine a1.of_abs ?_
      rw [Int.fdiv_eq_ediv_of_nonneg _ (by omega)]
      have := Int.ediv_le_self m a0
      have := Int.ediv_nonneg a0 (by omega : 0 ≤ m)
      omega
  · have sc : Sz 64 (c + 1) := sz_small (by omega) (by omega)
    have m1 : mulOk 1000427 (c + 1) := mulOkS (a := 64) (b := 64) (sz_small (by decide) (by decide)) sc
    have m2 : mulOk 9091 (c + 1) := mulOkS (a := 64) (b := 64) (sz_small (by decide) (by decide)) sc
    obtain ⟨o, ho⟩ : ∃ o, o = (b + 1000427 * (c + 1)).fmod 2305843009213693951 := ⟨_, rfl⟩
    have o1 : 0 ≤ o := by rw [ho]; exact Int.fmod_nonneg_of_pos _ (by decide)
    have o2 : o < 2305843009213693951 := by rw [ho]; exact Int.fmod_lt_of_pos _ (by decide)
    have so : Sz 64 o := sz_small o1 (by omega)
    have m3 : mulOk o o := mulOkS so so
    have s4 : Sz 64 ((o * o).fmod 2305843009213693921) := Sz.fmod (sz_small (by decide) (by decide)) (by decide)
    have m4 : mulOk ((o * o).fmod 2305843009213693921) o := mulOkS s4 so
    have d1 : ∀ i : Int, divOk i 16384 := fun i => Sz.divOk (b := 64) (sz_small (by decide) (by decide)) (by decide)
    refine ⟨((((((o * o).fmod 2305843009213693921) * o + 9091 * (c + 1)).fmod 2305843009213693907).fdiv 16384).fmod m), [.int a, .int b, .int (c + 1)], ?_, ?_, ?_, ?_⟩
    · unfold runI B_bit
      simp [ha, op_mulI m1, op_modI, ← ho, op_mulI m3, op_mulI m4, op_mulI m2, op_divI (d1 _), op_modI hm0]
    · exact Int.fmod_nonneg_of_pos _ hm
    · exact Int.fmod_lt_of_pos _ hm
    · exact ⟨_, _, _, rfl, a0, a1, b0, b1, by omega, by omega⟩
end Mr
namespace Pm
open PySem PySem.Spec PyProof.Rows L2 Mr
theorem great_big : ((2 ^ 600 : Nat) : Int) ≤ c_GREATEST := by unfold c_GREATEST; decide
/-- a number that can be passed -/
def isI (i : Int) : Bool := decide (-c_GREATEST ≤ i) && decide (i ≤ c_GREATEST)
theorem isI_sz {i : Int} (h : Sz 600 i) : isI i = true := by
  have h1 := h.lt; have h2 := h.gt; have h3 := great_big
  have a1 : -c_GREATEST ≤ i := by omega
  have a2 : i ≤ c_GREATEST := by omega
  simp [isI, a1, a2]
theorem e_is_integer' {i : Int} : m_is_integer [.int i] = .ok (.bl (isI i)) := by
  unfold m_is_integer b_is_integer runF isI
  by_cases a : -c_GREATEST ≤ i <;> simp [a]
theorem e_is_integer {i : Int} (h : Sz 600 i) : m_is_integer [.int i] = .ok (.bl true) := by rw [e_is_integer', isI_sz h]
def rowD (r : List Int) : D := .tup (r.map .int)
@[simp] theorem len_rowD {r : List Int} : lenD [rowD r] = .ok (.int r.length) := by simp [rowD]
@[simp] theorem walk_rowD {r : List Int} : walkD (rowD r) = .ok (r.map .int) := id rfl
@[simp] theorem isi_rowD {r : List Int} : isiD [rowD r, .opq (.ty "tuple")] = .ok (.bl true) := id rfl
@[simp] theorem okD_rowD {n : Nat} {r : List Int} : okD (n + 1) (rowD r) = true := by unfold rowD; simp
structure Row (ns : List Int) : Prop where
  ne : ns ≠ []
  le : ns.length ≤ 4
  sz : ∀ x ∈ ns, Sz 600 x
theorem Row.pos {ns : List Int} (h : Row ns) : (1 : Int) ≤ ns.length := by have := List.length_pos_iff.mpr h.ne; omega
theorem Row.line {ns : List Int} (h : Row ns) : ns.length ≤ sizeLine := Nat.le_trans h.le (by decide)
/-- the sum of products -/
def dot (xs ys : List Int) : Int := (xs.zipWith (· * ·) ys).sum
/-- x + y, number by number -/
def addR (xs ys : List Int) : List Int := xs.zipWith (· + ·) ys
def mulR (n : Int) (xs : List Int) : List Int := xs.map (n * ·)
@[simp] theorem addR_len {xs ys : List Int} : (addR xs ys).length = min xs.length ys.length := by unfold addR; exact List.length_zipWith
@[simp] theorem mulR_len {n : Int} {xs : List Int} : (mulR n xs).length = xs.length := by unfold mulR; exact List.length_map _
@[simp] theorem zip_rowD {xs ys : List Int} : zipMD [rowD xs, rowD ys] = .ok (xs.zipWith (fun x y => .tup [.int x, .int y]) ys) := by
  show FR.ok ((xs.map D.int).zipWith (fun x y => D.tup [x, y]) (ys.map D.int)) = _
  rw [List.zipWith_map]
@[simp] theorem zip_lrow {xs ys : List Int} : zipMD [.lst (xs.map .int), rowD ys] = .ok (xs.zipWith (fun x y => .tup [.int x, .int y]) ys) := by
  show FR.ok ((xs.map D.int).zipWith (fun x y => D.tup [x, y]) (ys.map D.int)) = _
  rw [List.zipWith_map]
end Pm
namespace Pm
open PySem PySem.Spec PyProof.Rows L2 Mr
theorem e_bowl {ns : List Int} {k : Nat} (hk : k < 64) : ∃ xs, m__law_bowl [.frz (ns.map .int), .int k] = .ok xs ∧ Bowl 0 xs := E_bowl hk
theorem e_bitZ {xs : List D} {n : Nat} {m : Int} (h : Bowl n xs) (hm : 0 < m) (hs : Sz 9000 m) (hn : n < 1000000) : ∃ (k : Int) (ys : List D), m__law_bit (.own true xs) [.int m] = .ok (.int k) (.own true ys) ∧ 0 ≤ k ∧ k < m ∧ Bowl (n + 1) ys := E_bit h hm hs hn
theorem e_bit {xs : List D} {n : Nat} {m : Int} (h : Bowl n xs) (hm : 0 < m) (hs : m < 1000000000) (hn : n < 1000000) : ∃ (k : Nat) (ys : List D), m__law_bit (.own true xs) [.int m] = .ok (.int k) (.own true ys) ∧ (k : Int) < m ∧ Bowl (n + 1) ys := by
  obtain ⟨k, ys, e, k0, k1, h'⟩ := E_bit h hm ((sz_small (by omega) (by omega)).mono (by decide)) hn
  obtain ⟨j, rfl⟩ : ∃ j : Nat, k = (j : Int) := ⟨k.toNat, by omega⟩
  exact ⟨j, ys, e, k1, h'⟩
/-- a list of draws: the other slots stay as they are -/
theorem draw_list {vs : List Nat} {t : Tg} {el : M D} {rest : Ro} {P : D → Prop} {cost : Nat} (ds : List D) (xs : List D) (b : Nat) (hB : Bowl b xs) (hpl : ∀ xs, plainR (.own true xs :: rest) vs = true) (small : ds.length < 1000000)
    (h : ∀ d ∈ ds, ∀ xs b', b' + cost ≤ b + cost * ds.length → Bowl b' xs → ∃ y ys, turnM vs t el (.own true xs :: rest) d = .ok y (.own true ys :: rest) ∧ P y ∧ Bowl (b' + cost) ys) :
    ∃ l ys, lcM vs t tYesM el ds [] (.own true xs :: rest) = .ok l (.own true ys :: rest) ∧ l.length = ds.length ∧ (∀ y ∈ l, P y) ∧ Bowl (b + cost * ds.length) ys := by
  obtain ⟨ys, ρ', e, ⟨zs, rfl, hz⟩, l, p⟩ := lcM_run2 (vs := vs) (t := t) (el := el) (I := fun j ρ => ∃ ys, ρ = .own true ys :: rest ∧ Bowl (b + cost * j) ys) (P := P) ds [] 0 (.own true xs :: rest) (by simp [sizeLine_eq]; omega) ⟨xs, rfl, by simpa using hB⟩
    (fun d hd j ρ h0 h1 hI => by
      obtain ⟨zs, rfl, hz⟩ := hI
      refine ⟨hpl _, ?_⟩
      have hj : j + 1 ≤ ds.length := by omega
      have hc : cost * (j + 1) ≤ cost * ds.length := Nat.mul_le_mul_left _ hj
      rw [Nat.mul_add, Nat.mul_one] at hc
      obtain ⟨y, ys, e, py, hy⟩ := h d hd zs (b + cost * j) (by omega) hz
      exact ⟨y, _, e, ⟨ys, rfl, by rw [Nat.mul_add, Nat.mul_one, ← Nat.add_assoc]; exact hy⟩, py⟩)
  rw [Nat.zero_add] at hz
  exact ⟨ys, zs, by simpa using e, l, p, hz⟩
theorem rangeN (n : Nat) (h : n ≤ 1000000000) : range1D [.int (n : Int)] = .ok ((List.range n).map fun (k : Nat) => .int k) := by
  have := range1_of (i := (n : Int)) (by omega) (by omega)
  rwa [Int.toNat_natCast] at this
theorem rangeZ {i : Int} {n : Nat} (e : i = (n : Int)) (h : n ≤ 1000000000) : range1D [.int i] = .ok ((List.range n).map fun (k : Nat) => .int k) := by rw [e]; exact rangeN n h
theorem e_pickL {xs ds : List D} {b : Nat} (h : Bowl b xs) (h0 : ds ≠ []) (hl : ds.length < 1000000) (hb : b < 1000000) :
    ∃ d ys, d ∈ ds ∧ m__law_pick (.own true xs) [.lst ds] = .ok d (.own true ys) ∧ Bowl (b + 1) ys := by
  have l0 := List.length_pos_iff.mpr h0
  obtain ⟨k, ys, e, hk, h'⟩ := e_bit h (m := ds.length) (by omega) (by omega) hb
  have hk : k < ds.length := by omega
  have g : ds[k]? = some ds[k] := List.getElem?_eq_getElem hk
  refine ⟨ds[k], ys, List.getElem_mem hk, ?_, h'⟩
  unfold m__law_pick b__law_pick runI
  simp [e, ixD_lst g]
/-- a pick of written items -/
theorem e_pickM {α : Type} {xs : List D} {b : Nat} (g : α → D) (l : List α) (h : Bowl b xs) (h0 : l ≠ []) (hl : l.length < 1000000) (hb : b < 1000000) :
    ∃ a ys, a ∈ l ∧ m__law_pick (.own true xs) [.lst (l.map g)] = .ok (g a) (.own true ys) ∧ Bowl (b + 1) ys := by
  obtain ⟨d, ys, hd, e, hy⟩ := e_pickL (ds := l.map g) h (by simpa using h0) (by simpa using hl) hb
  obtain ⟨a, ha, rfl⟩ := List.mem_map.mp hd
  exact ⟨a, ys, ha, e, hy⟩
/-- -M to M -/
theorem e_smallZ {xs : List D} {b : Nat} {M : Int} (h : Bowl b xs) (hM : 1 ≤ M) (hM2 : Sz 8000 M) (hb : b < 900000) : ∃ (k : Int) (ys : List D), m__law_small (.own true xs) [.int M] = .ok (.int k) (.own true ys) ∧ -M ≤ k ∧ k ≤ M ∧ Bowl (b + 2) ys := by
  obtain ⟨lot, x1, e1, l1, b1⟩ := e_bit h (m := 4) (by decide) (by decide) (by omega)
  by_cases hl : (lot : Int) < 2
  · refine ⟨lot, x1, ?_, by omega, by omega, b1.mono (by omega)⟩
    unfold m__law_small b__law_small runI
    simp [e1, hl]
  · have m1 : mulOk 2 M := mulOkS (a := 64) (sz_small (by decide) (by decide)) hM2
    have s2 : Sz 9000 (2 * M + 1) := by
      have := (hM2.add hM2).add (Sz.one)
      rw [show M + M + 1 = 2 * M + 1 by omega] at this
      exact this.mono (by decide)
    obtain ⟨k, x2, e2, k0, k1, b2⟩ := e_bitZ b1 (m := 2 * M + 1) (by omega) s2 (by omega)
    refine ⟨k - M, x2, ?_, by omega, by omega, b2⟩
    unfold m__law_small b__law_small runI
    simp [e1, hl, op_mulI m1, e2]
def small (M : Int) (r : List Int) : Prop := ∀ x ∈ r, -M ≤ x ∧ x ≤ M
theorem small.sz {M : Int} {a : Nat} {r : List Int} (h : small M r) (hM : Sz a M) : ∀ x ∈ r, Sz a x := fun x hx => hM.of_abs (by have := h x hx; omega)
theorem small.mono {M N : Int} {r : List Int} (h : small M r) (l : M ≤ N) : small N r := fun x hx => by have := h x hx; omega
theorem small.append {M : Int} {r q : List Int} (h : small M r) (h' : small M q) : small M (r ++ q) := fun x hx => (List.mem_append.mp hx).elim (h x) (h' x)
theorem line_core {xs zs : List D} {ks : List Int} {L : List D} {n M : Int} (rn : range1D [.int n] = .ok L)
    (e : lcM [3] (.sl 3) tYesM e1__law_line L [] [.own true xs, .val (.int n), .val (.int M), .un] = .ok (ks.map .int) [.own true zs, .val (.int n), .val (.int M), .un]) :
    m__law_line (.own true xs) [.int n, .int M] = .ok (rowD ks) (.own true zs) := by
  unfold m__law_line b__law_line q1__law_line runI
  simp [rn, e, rowD]
theorem e_lineZ {xs : List D} {b n : Nat} {M : Int} (h : Bowl b xs) (hM : 1 ≤ M) (hM2 : Sz 8000 M) (hb : b + 2 * n < 900000) : ∃ (r : List Int) (ys : List D), m__law_line (.own true xs) [.int n, .int M] = .ok (rowD r) (.own true ys) ∧ r.length = n ∧ small M r ∧ Bowl (b + 2 * n) ys := by
  obtain ⟨l, zs, e, hl, hp, hz⟩ := draw_list (vs := [3]) (t := .sl 3) (el := e1__law_line) (rest := [.val (.int n), .val (.int M), .un]) (P := fun y => ∃ k, y = .int k ∧ (-M ≤ k ∧ k ≤ M)) (cost := 2) ((List.range n).map fun (k : Nat) => D.int k) xs b h (fun _ => rfl) (by simp; omega)
    (fun d hd zs b' hb' hz => by
      rw [List.length_map, List.length_range] at hb'
      obtain ⟨k, ys, e, s1, s2, hy⟩ := e_smallZ hz hM hM2 (by omega)
      exact ⟨.int k, ys, by simp [turnM, e1__law_line, e], ⟨k, rfl, s1, s2⟩, hy⟩)
  obtain ⟨ks, rfl, hk⟩ := ints_of hp
  rw [List.length_map, List.length_map, List.length_range] at hl
  rw [List.length_map, List.length_range] at hz
  exact ⟨ks, zs, line_core (rangeN n (by omega)) e, hl, hk, hz⟩
theorem e_line {xs : List D} {b n M : Nat} (h : Bowl b xs) (hM : 1 ≤ M) (hM2 : M < 1000) (hb : b + 2 * n < 900000) : ∃ (r : List Int) (ys : List D), m__law_line (.own true xs) [.int n, .int M] = .ok (rowD r) (.own true ys) ∧ r.length = n ∧ small M r ∧ Bowl (b + 2 * n) ys :=
  e_lineZ h (by omega) ((sz_small (by omega) (by omega)).mono (by decide)) hb
theorem zero_row : ∀ n : Nat, (List.replicate n [D.int 0]).flatten = List.replicate n (D.int 0)
  | 0 => rfl
  | n + 1 => by rw [List.replicate_succ, List.flatten_cons, zero_row n]; rfl
theorem mul_zero {n : Nat} (h4 : n ≤ 1000) : mulD (.tup [.int 0]) (.int n) = .ok (rowD (List.replicate n 0)) := by
  have e : rowD (List.replicate n 0) = .tup (List.replicate n (.int 0)) := by unfold rowD; rw [List.map_replicate]
  rw [e]
  show (if (n : Int) = 1 then FR.ok (D.tup [.int 0]) else if _ then _ else if _ then FR.ok (D.tup (List.replicate (n : Int).toNat [D.int 0]).flatten) else .stuck) = _
  by_cases q : n = 1
  · subst q; rfl
  · rw [if_neg (by omega)]
    by_cases q0 : n = 0
    · subst q0; rw [if_pos ⟨by simp, by omega, by omega⟩]; rfl
    · rw [if_neg (by simp; omega), if_pos ⟨by simp, by omega, by omega, by simp⟩, Int.toNat_natCast, zero_row]
theorem mul_zeroZ {i : Int} {n : Nat} (e : i = n) (h4 : n ≤ 1000) : mulD (.tup [.int 0]) (.int i) = .ok (rowD (List.replicate n 0)) := by rw [e]; exact mul_zero h4
theorem deal_core {xs ys waits : List D} {it : SV} {t d : D} {k : Nat} (e : m__law_bit (.own true xs) [.int waits.length] = .ok (.int k) (.own true ys)) (hk : k < waits.length) (hl : waits.length < 1000000) (hs : seqIndex? (k : Int) waits.length = some k) (hd : waits[k]? = some d) :
    turnO [3] (.sl 3) tYesM e1__law_dealt [.own true xs, it, .own false waits, .un] t = .ok (some d) [.own true ys, it, .own false (waits.eraseIdx k), .un] := by
  have h1 : I63 (k : Int) := ⟨by omega, by omega⟩
  simp [turnO, e1__law_dealt, e, hs, hd, h1]
theorem erase_perm {α : Type} : ∀ {l : List α} {k : Nat} (h : k < l.length), List.Perm (l[k] :: l.eraseIdx k) l
  | a :: l, 0, _ => List.Perm.refl _
  | a :: l, k + 1, h => by
    have h' : k < l.length := by simpa using h
    have ih := erase_perm (l := l) (k := k) h'
    exact (List.Perm.swap a l[k] (l.eraseIdx k)).trans (.cons a ih)
theorem deal_run {it : SV} : ∀ (ts : List D) (waits acc xs : List D) (b : Nat), ts.length = waits.length → Bowl b xs → b + ts.length < 1000000 → acc.length + ts.length < 1000000 →
    ∃ ys zs, lcM [3] (.sl 3) tYesM e1__law_dealt ts acc [.own true xs, it, .own false waits, .un] = .ok (acc ++ ys) [.own true zs, it, .own false [], .un] ∧ List.Perm ys waits ∧ Bowl (b + ts.length) zs
  | [], waits, acc, xs, b, hl, hb, _, _ => by
    have e : waits = [] := List.eq_nil_of_length_eq_zero hl.symm
    subst e
    exact ⟨[], xs, by simp [lcM], .nil, hb⟩
  | t :: ts, waits, acc, xs, b, hl, hb, h1, h2 => by
    rw [List.length_cons] at hl h1 h2
    obtain ⟨k, ys, e, hk, hb'⟩ := e_bit hb (m := waits.length) (by omega) (by omega) (by omega)
    have hk : k < waits.length := by omega
    have hd : waits[k]? = some waits[k] := List.getElem?_eq_getElem hk
    have hs : seqIndex? (k : Int) waits.length = some k := by
      have := seqIndex_of (n := waits.length) (k := (k : Int)) (by omega) (by omega)
      simpa using this
    have st := deal_core (it := it) (t := t) e hk (by omega) hs hd
    have le : (waits.eraseIdx k).length = waits.length - 1 := List.length_eraseIdx_of_lt hk
    obtain ⟨zs, us, f, p, hz⟩ := deal_run ts (waits.eraseIdx k) (acc ++ [waits[k]]) ys (b + 1) (by omega) hb' (by omega) (by rw [List.length_append, List.length_singleton]; omega)
    refine ⟨waits[k] :: zs, us, ?_, ?_, by rw [List.length_cons, show b + (ts.length + 1) = b + 1 + ts.length by omega]; exact hz⟩
    · have hsz : acc.length < sizeLine := by rw [sizeLine_eq]; omega
      rw [lcM_step rfl hsz st]
      show lcM _ _ _ _ ts (acc ++ [waits[k]]) _ = _
      rw [f]
      simp
    · exact (List.Perm.cons _ p).trans (erase_perm hk)
theorem dealt_coreL {xs zs ds ys L : List D} {len : Int} (hl : lenD [.lst ds] = .ok (.int len)) (rn : range1D [.int len] = .ok L)
    (e : lcM [3] (.sl 3) tYesM e1__law_dealt L [] [.own true xs, .val (.lst ds), .own false ds, .un] = .ok ys [.own true zs, .val (.lst ds), .own false [], .un]) :
    m__law_dealt (.own true xs) [.lst ds] = .ok (.lst ys) (.own true zs) := by
  unfold m__law_dealt b__law_dealt q1__law_dealt runI
  simp [-op_lenL, hl, rn, e]
theorem e_dealtL {xs ds : List D} {b : Nat} (h : Bowl b xs) (hl : ds.length < 100000) (hb : b < 800000) :
    ∃ ys zs, m__law_dealt (.own true xs) [.lst ds] = .ok (.lst ys) (.own true zs) ∧ List.Perm ys ds ∧ Bowl (b + ds.length) zs := by
  obtain ⟨ys, zs, e, p, hz⟩ := deal_run (it := .val (.lst ds)) ((List.range ds.length).map fun (k : Nat) => D.int k) ds [] xs b (by simp) h (by simp; omega) (by simp; omega)
  rw [List.nil_append] at e
  rw [List.length_map, List.length_range] at hz
  exact ⟨ys, zs, dealt_coreL op_lenL (rangeN _ (by omega)) e, p, hz⟩
theorem perm_map {α β : Type} {f : α → β} : ∀ {l : List α} {ys : List β}, List.Perm ys (l.map f) → ∃ l', ys = l'.map f ∧ List.Perm l' l := by
  intro l ys h
  generalize hm : l.map f = ms at h
  induction h generalizing l with
  | nil => exact ⟨[], rfl, by simp [List.map_eq_nil_iff.mp hm]⟩
  | cons x p ih =>
    obtain ⟨a, l1, rfl, rfl, e⟩ := List.map_eq_cons_iff.mp hm
    obtain ⟨l', e1, e2⟩ := ih e
    exact ⟨a :: l', by rw [e1]; rfl, .cons _ e2⟩
  | swap x y l2 =>
    obtain ⟨a, l1, rfl, rfl, e⟩ := List.map_eq_cons_iff.mp hm
    obtain ⟨b, l3, rfl, rfl, e'⟩ := List.map_eq_cons_iff.mp e
    exact ⟨b :: a :: l3, by rw [← e']; rfl, .swap _ _ _⟩
  | trans p1 p2 ih1 ih2 =>
    obtain ⟨l', e1, e2⟩ := ih2 hm
    obtain ⟨l'', e3, e4⟩ := ih1 e1.symm
    exact ⟨l'', e3, e4.trans e2⟩
theorem cut_take {xs : List D} {k : Nat} : Mr.cutD xs none (some (k : Int)) = xs.take k := by
  unfold Mr.cutD
  have h0 : HT.sIx xs.length 0 none = 0 := rfl
  have h1 : HT.sIx xs.length xs.length (some (k : Int)) = min k xs.length := HT.sIx_nat xs.length xs.length k
  rw [h0, h1, List.drop_zero, Nat.sub_zero]
  rcases Nat.le_total k xs.length with h | h
  · rw [Nat.min_eq_left h]
  · rw [Nat.min_eq_right h, List.take_of_length_le (Nat.le_refl _), List.take_of_length_le h]
theorem cut_drop {xs : List D} {k : Nat} : Mr.cutD xs (some (k : Int)) none = xs.drop k := by
  unfold Mr.cutD
  have h1 : HT.sIx xs.length 0 (some (k : Int)) = min k xs.length := HT.sIx_nat xs.length 0 k
  have h0 : HT.sIx xs.length xs.length none = xs.length := rfl
  rw [h0, h1]
  rcases Nat.le_total k xs.length with h | h
  · rw [Nat.min_eq_left h, List.take_of_length_le (by simp)]
  · rw [Nat.min_eq_right h, List.drop_eq_nil_of_le (Nat.le_refl _), List.drop_eq_nil_of_le h, List.take_nil]
end Pm
namespace Pm
open PySem PySem.Spec PyProof.Rows L2 Mr
theorem piled_le (W : Nat) : ∀ ts : List Str, (∀ t ∈ ts, t.length ≤ W) → piled ts ≤ ts.length * (W + 2)
  | [], _ => by simp [piled]
  | t :: ts, h => by
    have h1 := h t (List.mem_cons_self ..)
    have ih := piled_le W ts fun u hu => h u (List.mem_cons_of_mem _ hu)
    rw [piled_cons, List.length_cons, Nat.add_mul, Nat.one_mul]
    omega
theorem join_le (W : Nat) (ts : List Str) (h : ∀ t ∈ ts, t.length ≤ W) : (Str.join ", " ts).length ≤ ts.length * (W + 2) := by
  by_cases e : ts = []
  · subst e; show (Str.empty).length ≤ _; exact Nat.zero_le _
  · have h1 := join_length_add ts e
    have h2 := piled_le W ts h
    omega
theorem shown_all (xs : List D) : PyData.shownAll (pys xs) = xs.map fun x => (py x).shown := by
  induction xs with
  | nil => rfl
  | cons x xs ih => rw [pys, PyData.shownAll_cons, ih]; rfl
/-- its text has at most W signs -/
def ShW (W : Nat) (d : D) : Prop := (py d).shown.length ≤ W ∧ (py d).showable = true
theorem ShW.mono {W V : Nat} {d : D} (h : ShW W d) (l : W ≤ V) : ShW V d := ⟨Nat.le_trans h.1 l, h.2⟩
theorem sh_int {i : Int} (h : Sz 1900 i) : ShW 1921 (.int i) := by
  have hl : i.natAbs.log2 < 1920 := by
    by_cases z : i.natAbs = 0
    · rw [z]; decide
    · exact Nat.lt_of_lt_of_le ((Nat.log2_lt z).mpr h) (by decide)
  refine ⟨?_, ?_⟩
  · show ((PyData.int i).shown).length ≤ _
    rw [PyData.shown_int]
    exact int_text_len_1921 hl
  · show PyData.showable (.int i) = true
    simp only [PyData.showable]
    exact decide_eq_true hl
theorem showableAll_map {xs : List D} (h : ∀ x ∈ xs, (py x).showable = true) : PyData.showableAll (pys xs) = true := by
  induction xs with
  | nil => rfl
  | cons x xs ih =>
    rw [pys, PyData.showableAll, h x (List.mem_cons_self ..), ih fun y hy => h y (List.mem_cons_of_mem _ hy)]; rfl
theorem sh_tup {W : Nat} {xs : List D} (h : ∀ x ∈ xs, ShW W x) : ShW (xs.length * (W + 2) + 4) (.tup xs) := by
  refine ⟨?_, ?_⟩
  · show ((PyData.tuple (pys xs)).shown).length ≤ _
    rw [PyData.shown_tuple, shown_all, Str.length_append, Str.length_append]
    have h1 := join_le W (xs.map fun x => (py x).shown) fun t ht => by
      obtain ⟨x, hx, rfl⟩ := List.mem_map.mp ht
      exact (h x hx).1
    rw [List.length_map] at h1
    have e1 : (("(" : Str)).length = 1 := rfl
    have e2 : (((if (pys xs).length == 1 then ",)" else ")" : String) : Str)).length ≤ 2 := by split <;> decide
    omega
  · show PyData.showable (.tuple (pys xs)) = true
    simp only [PyData.showable]
    exact showableAll_map fun x hx => (h x hx).2
theorem sh_lst {W : Nat} {xs : List D} (h : ∀ x ∈ xs, ShW W x) : ShW (xs.length * (W + 2) + 4) (.lst xs) := by
  refine ⟨?_, ?_⟩
  · show ((PyData.list (pys xs)).shown).length ≤ _
    rw [PyData.shown_list, shown_all, Str.length_append, Str.length_append]
    have h1 := join_le W (xs.map fun x => (py x).shown) fun t ht => by
      obtain ⟨x, hx, rfl⟩ := List.mem_map.mp ht
      exact (h x hx).1
    rw [List.length_map] at h1
    have e1 : (("[" : Str)).length = 1 := rfl
    have e2 : (("]" : Str)).length = 1 := rfl
    omega
  · show PyData.showable (.list (pys xs)) = true
    simp only [PyData.showable]
    exact showableAll_map fun x hx => (h x hx).2
theorem sh_row {r : List Int} (h : ∀ x ∈ r, Sz 1900 x) : ShW (r.length * 1923 + 4) (rowD r) := by
  have := sh_tup (W := 1921) (xs := r.map .int) fun x hx => by
    obtain ⟨i, hi, rfl⟩ := List.mem_map.mp hx
    exact sh_int (h i hi)
  rw [List.length_map] at this
  exact this
/-- equal data have equal texts -/
@[simp] theorem ne_str_self {s : Str} : neD (.str s) (.str s) = .ok (.bl false) := op_neS (by simp)
end Pm
namespace Pm
open PySem PySem.Spec PyProof.Rows L2 Mr
section
variable {ρ : Ro} {a f : M D} {m : FR D → FR D} {c x : Str} {d : D} {s : List SV} {r : FR D}
@[simp] theorem ap_Lam : mLam m f ρ = (m (f (stillR ρ)).toF).lift ρ := id rfl
@[simp] theorem ap_RaiseI : xRaiseI c x a ρ = (a ρ).bind fun d ρ => .exc ⟨.own c, [(x, d)]⟩ ρ := id rfl
@[simp] theorem ap_Raise : xRaise c ρ = .exc ⟨.own c, []⟩ ρ := id rfl
@[simp] theorem still_nil : stillR [] = [] := id rfl
@[simp] theorem still_val : stillR (.val d :: s) = .val d :: stillR s := id rfl
@[simp] theorem still_un : stillR (.un :: s) = .un :: stillR s := id rfl
@[simp] theorem still_own {p : Bool} {xs : List D} : stillR (.own p xs :: s) = .un :: stillR s := id rfl
@[simp] theorem still_pin : stillR (.pin :: s) = .pin :: stillR s := id rfl
@[simp] theorem toF_ok {α : Type} {a : α} : (R.ok a ρ).toF = .ok a := id rfl
@[simp] theorem toF_exc {α : Type} {e : Ex} : (R.exc e ρ : R α).toF = .exc e := id rfl
@[simp] theorem toF_lift {α : Type} {r : FR α} : (r.lift ρ).toF = r := by cases r <;> rfl
@[simp] theorem ap_thunk : mThunk r (.pin :: s) = r.lift (.pin :: s) := id rfl
/-- the words for errors that keep nothing -/
abbrev exE (c : Str) : Ex := ⟨.own c, []⟩
abbrev exV (c x : Str) (d : D) : Ex := ⟨.own c, [(x, d)]⟩
end
end Pm
namespace Pm
open PySem PySem.Spec PyProof.Rows L2 Mr
theorem lcM_all {vs : List Nat} {t : Tg} {el : M D} {ρ : Ro} {y : D} (ds : List D) (hp : plainR ρ vs = true) (hl : ds.length ≤ 1000000) (h : ∀ d ∈ ds, turnM vs t el ρ d = .ok y ρ) : lcM vs t tYesM el ds [] ρ = .ok (List.replicate ds.length y) ρ := by
  have := lcM_map (vs := vs) (t := t) (el := el) (fun d : D => d) ds (fun _ => y) hp (by rw [sizeLine_eq]; omega) h
  rw [List.map_id'] at this
  rw [this, List.map_const']
@[simp] theorem all_rep {n : Nat} : allD [.lst (List.replicate n (.bl true))] = .ok (.bl true) := by
  have : List.replicate n (D.bl true) = (List.replicate n true).map D.bl := by rw [List.map_replicate]
  rw [this, op_all]
  congr 2
  simp
theorem e_is_form {r : List Int} {w : Int} (h : ∀ x ∈ r, Sz 600 x) (hl : r.length ≤ 1000) : m_is_form [rowD r, .int w] = .ok (.bl (decide ((r.length : Int) = w))) := by
  have hq : q1_is_form [.val (rowD r), .val (.int w), .un] = .ok (List.replicate r.length (.bl true)) [.val (rowD r), .val (.int w), .un] := by
    unfold q1_is_form
    simp
    rw [lcM_all (y := .bl true) _ rfl (by simp; omega) fun d hd => by
      obtain ⟨x, hx, rfl⟩ := List.mem_map.mp hd
      simp [turnM, e1_is_form, e_is_integer (h x hx)]]
    simp
  unfold m_is_form b_is_form runF
  by_cases e : (r.length : Int) = w
  · simp [e, hq]
  · simp [e]
theorem e_is_small {r : List Int} {w M : Int} (h : small M r) (hM : Sz 600 M) (hl : r.length ≤ 1000) : m_is_small_form [rowD r, .int w, .int M] = .ok (.bl (decide ((r.length : Int) = w))) := by
  have hq : q1_is_small_form [.val (rowD r), .val (.int w), .val (.int M), .un] = .ok (List.replicate r.length (.bl true)) [.val (rowD r), .val (.int w), .val (.int M), .un] := by
    unfold q1_is_small_form
    simp
    rw [lcM_all (y := .bl true) _ rfl (by simp; omega) fun d hd => by
      obtain ⟨x, hx, rfl⟩ := List.mem_map.mp hd
      have := h x hx
      simp [turnM, e1_is_small_form, this.1, this.2]]
    simp
  have e1 := e_is_form (w := w) (h.sz hM) hl
  unfold m_is_small_form b_is_small_form runF
  by_cases e : (r.length : Int) = w
  · simp [e] at e1
    simp [e1, hq, e]
  · simp [e] at e1
    simp [e1, e]
structure StepOk (n i : Nat) (r : List Int) : Prop where
  len : r.length = n + 1
  sm : small 20 r
  own : ∀ x, r[i + 1]? = some x → -9 ≤ x ∧ x ≤ 9
  zero : ∀ j x, i + 1 < j → r[j]? = some x → x = 0
theorem ixD_row {r : List Int} {k : Nat} {x : Int} (h : r[k]? = some x) : ixD (rowD r) (.int k) = .ok (.int x) := ixD_tup (by simp [h])
theorem ixD_rowZ {r : List Int} {i : Int} {k : Nat} {x : Int} (e : i = k) (h : r[k]? = some x) : ixD (rowD r) (.int i) = .ok (.int x) := by rw [e]; exact ixD_row h
theorem slice_row {r : List Int} {lo hi : Option Int} : sliceD (rowD r) lo hi = .ok (.tup (Mr.cutD (r.map .int) lo hi)) := id rfl
theorem slice_drop {r : List Int} {k : Nat} : sliceD (rowD r) (some (k : Int)) none = .ok (rowD (r.drop k)) := by
  rw [slice_row, cut_drop]
  unfold rowD
  rw [List.map_drop]
theorem slice_dropZ {r : List Int} {i : Int} {k : Nat} (e : i = k) : sliceD (rowD r) (some i) none = .ok (rowD (r.drop k)) := by rw [e]; exact slice_drop
theorem e_is_step {n i : Nat} {r : List Int} (h : StepOk n i r) (hi : i < n) (hn : n ≤ 3) : m_is_step [rowD r, .int ((n : Int) + 1), .int ((i : Int) + 1)] = .ok (.bl true) := by
  have hl := h.len
  obtain ⟨x, hx⟩ : ∃ x, r[i + 1]? = some x := ⟨_, List.getElem?_eq_getElem (by omega)⟩
  have hx2 := h.own x hx
  have e1 := e_is_small (w := (n : Int) + 1) (M := c_MAX_STEP) h.sm (by unfold c_MAX_STEP Sz; decide) (by omega)
  rw [show ((r.length : Nat) : Int) = (n : Int) + 1 by omega, decide_eq_true rfl] at e1
  have e2 : ixD (rowD r) (.int ((i : Int) + 1)) = .ok (.int x) := ixD_rowZ (k := i + 1) (by omega) hx
  have e3 : sliceD (rowD r) (some ((i : Int) + 1 + 1)) none = .ok (rowD (r.drop (i + 2))) := slice_dropZ (by omega)
  have hq : q1_is_step [.val (rowD r), .val (.int ((n : Int) + 1)), .val (.int ((i : Int) + 1)), .un] = .ok (List.replicate (r.drop (i + 2)).length (.bl true)) [.val (rowD r), .val (.int ((n : Int) + 1)), .val (.int ((i : Int) + 1)), .un] := by
    unfold q1_is_step
    simp [e3]
    rw [lcM_all (y := .bl true) _ rfl (by simp; omega) fun d hd => by
      rw [← List.map_drop] at hd
      obtain ⟨y, hy, rfl⟩ := List.mem_map.mp hd
      obtain ⟨k, hk, e⟩ := List.getElem_of_mem hy
      have : y = 0 := by
        refine h.zero (i + 2 + k) y (by omega) ?_
        rw [← e, List.getElem_drop, List.getElem?_eq_getElem]
      simp [turnM, e1_is_step, this]]
    simp
  have m9 : c_MAX_MULTIPLIER = 9 := rfl
  unfold m_is_step b_is_step runF
  simp [e1, e2, m9, hx2.1, hx2.2, hq]
theorem mem_enum {xs : List D} {d : D} (h : d ∈ enumL xs) : ∃ i x, xs[i]? = some x ∧ d = .tup [.int (i : Nat), x] := by
  obtain ⟨i, hi, e⟩ := List.getElem_of_mem h
  obtain ⟨x, e1, e2⟩ := enumL_get (xs := xs) (i := i) (d := d) (by rw [← e]; exact List.getElem?_eq_getElem hi)
  exact ⟨i, x, e1, e2⟩
def rowsD (rs : List (List Int)) : D := .tup (rs.map rowD)
@[simp] theorem len_rowsD {rs : List (List Int)} : lenD [rowsD rs] = .ok (.int rs.length) := by simp [rowsD]
@[simp] theorem walk_rowsD {rs : List (List Int)} : walkD (rowsD rs) = .ok (rs.map rowD) := id rfl
@[simp] theorem isi_rowsD {rs : List (List Int)} : isiD [rowsD rs, .opq (.ty "tuple")] = .ok (.bl true) := id rfl
theorem e_are_steps {n : Nat} {rs : List (List Int)} (hn : n ≤ 3) (hl : rs.length = n) (h : ∀ i r, rs[i]? = some r → StepOk n i r) : m_are_steps [rowsD rs, .int ((n : Int) + 1)] = .ok (.bl true) := by
  have hq : q1_are_steps [.val (rowsD rs), .val (.int ((n : Int) + 1)), .un, .un] = .ok (List.replicate (enumL (rs.map rowD)).length (.bl true)) [.val (rowsD rs), .val (.int ((n : Int) + 1)), .un, .un] := by
    unfold q1_are_steps
    have e : enumD [rowsD rs] = .ok (enumL (rs.map rowD)) := rfl
    simp [e]
    rw [lcM_all (y := .bl true) _ rfl (by rw [enumL_len]; simp; omega) fun d hd => by
      obtain ⟨i, x, e1, rfl⟩ := mem_enum hd
      rw [List.getElem?_map] at e1
      obtain ⟨r, e2, rfl⟩ := Option.map_eq_some_iff.mp e1
      have hi : i < n := by have := (List.getElem?_eq_some_iff.mp e2).1; omega
      simp [turnM, e1_are_steps, e_is_step (h i r e2) hi hn]]
    simp
  unfold m_are_steps b_are_steps runF
  simp [hl, hq]
structure Tst where
  more : Bool
  f : List Int
def sgS (b : Bool) : Str := if b then Str.ofString "more" else Str.ofString "least"
def tstD (t : Tst) : D := .tup [.str (sgS t.more), rowD t.f]
structure TstOk (n : Nat) (t : Tst) : Prop where
  len : t.f.length = n + 1
  sm : small 99 t.f
theorem e_is_test {n : Nat} {t : Tst} (h : TstOk n t) (hn : n ≤ 3) : m_is_test [tstD t, .int ((n : Int) + 1)] = .ok (.bl true) := by
  have hl := h.len
  have e1 := e_is_small (w := (n : Int) + 1) (M := c_MAX_TEST_NUMBER) h.sm (by unfold c_MAX_TEST_NUMBER Sz; decide) (by omega)
  rw [show ((t.f.length : Nat) : Int) = (n : Int) + 1 by omega, decide_eq_true rfl] at e1
  have e2 : m_is_sign [.str (sgS t.more)] = .ok (.bl true) := by
    cases t.more <;> kernel_rfl
  unfold m_is_test b_is_test runF tstD
  simp [e1, e2]
def tstsD (ts : List Tst) : D := .tup (ts.map tstD)
@[simp] theorem len_tstsD {ts : List Tst} : lenD [tstsD ts] = .ok (.int ts.length) := by simp [tstsD]
@[simp] theorem walk_tstsD {ts : List Tst} : walkD (tstsD ts) = .ok (ts.map tstD) := id rfl
@[simp] theorem isi_tstsD {ts : List Tst} : isiD [tstsD ts, .opq (.ty "tuple")] = .ok (.bl true) := id rfl
theorem e_are_tests {n : Nat} {ts : List Tst} (hn : n ≤ 3) (h0 : ts ≠ []) (hl : ts.length ≤ 4) (h : ∀ t ∈ ts, TstOk n t) : m_are_tests [tstsD ts, .int ((n : Int) + 1)] = .ok (.bl true) := by
  have hq : q1_are_tests [.val (tstsD ts), .val (.int ((n : Int) + 1)), .un] = .ok (List.replicate (ts.map tstD).length (.bl true)) [.val (tstsD ts), .val (.int ((n : Int) + 1)), .un] := by
    unfold q1_are_tests
    simp
    rw [lcM_all (y := .bl true) _ rfl (by simp; omega) fun d hd => by
      obtain ⟨t, ht, rfl⟩ := List.mem_map.mp hd
      simp [turnM, e1_are_tests, e_is_test (h t ht) hn]]
    simp
  have l0 := List.length_pos_iff.mpr h0
  have a1 : (1 : Int) ≤ ts.length := by omega
  have a2 : (ts.length : Int) ≤ 4 := by omega
  unfold m_are_tests b_are_tests runF
  simp [a1, a2, c_MAX_TESTS, hq]
def NameOk (x : Str) : Prop := m_is_name [.str x] = .ok (.bl true) ∧ (decide (1 ≤ x.length) && decide (x.length ≤ 8) && (x.cps.toList.all fun c => decide (97 ≤ c ∧ c ≤ 122)) && !(x == Str.ofString "nobody")) = true
def strsT (xs : List Str) : D := .tup (xs.map .str)
@[simp] theorem len_strsT {xs : List Str} : lenD [strsT xs] = .ok (.int xs.length) := by simp [strsT]
@[simp] theorem walk_strsT {xs : List Str} : walkD (strsT xs) = .ok (xs.map .str) := id rfl
@[simp] theorem isi_strsT {xs : List Str} : isiD [strsT xs, .opq (.ty "tuple")] = .ok (.bl true) := id rfl
theorem strsD_map : ∀ (xs : List Str), strsD (xs.map .str) = some xs
  | [] => rfl
  | x :: xs => by rw [List.map_cons, strsD, strsD_map xs]; rfl
theorem uniq_nodup : ∀ (n : Nat) (xs : List Str), xs.length = n → xs.Nodup → uniqS xs = xs := by
  intro n
  induction n with
  | zero => intro xs h _; rw [List.eq_nil_of_length_eq_zero h]; rfl
  | succ n ih =>
    intro xs h hn
    have ne : xs ≠ [] := fun z => by rw [z] at h; simp at h
    have e := List.dropLast_concat_getLast ne
    have hd : xs.dropLast.Nodup := hn.sublist (List.dropLast_sublist _)
    have i := ih xs.dropLast (by rw [List.length_dropLast, h]; rfl) hd
    rw [← e] at hn
    have hx : hasS (uniqS xs.dropLast) (xs.getLast ne) = false := by
      rw [i]
      unfold hasS
      rw [Bool.eq_false_iff]
      intro z
      obtain ⟨q, hq, e2⟩ := List.any_eq_true.mp z
      have : q = xs.getLast ne := of_decide_eq_true e2
      exact (List.nodup_append.mp hn).2.2 q hq _ (List.mem_singleton.mpr rfl) this
    rw [← e, uniqS_snoc, hx, if_neg Bool.false_ne_true, i]
theorem e_is_names {xs : List Str} (h0 : xs ≠ []) (hl : xs.length ≤ 3) (hn : xs.Nodup) (h : ∀ x ∈ xs, NameOk x) : m_is_names [strsT xs] = .ok (.bl true) := by
  have hq : q1_is_names [.val (strsT xs), .un] = .ok (List.replicate (xs.map D.str).length (.bl true)) [.val (strsT xs), .un] := by
    unfold q1_is_names
    simp
    rw [lcM_all (y := .bl true) _ rfl (by simp; omega) fun d hd => by
      obtain ⟨x, hx, rfl⟩ := List.mem_map.mp hd
      have e : m_is_name [.str x] = .ok (.bl true) := (h x hx).1
      simp [turnM, e1_is_names, e]]
    simp
  have l0 := List.length_pos_iff.mpr h0
  have a1 : (1 : Int) ≤ xs.length := by omega
  have a2 : (xs.length : Int) ≤ 3 := by omega
  have es : lenSetD (strsT xs) = .ok (.int xs.length) := by
    show (match strsD (xs.map D.str) with | some ss => if ss.length < 1000 then FR.ok (D.int (uniqS ss).length) else .stuck | none => .stuck) = _
    rw [strsD_map]
    simp only
    rw [if_pos (by omega), uniq_nodup _ xs rfl hn]
  unfold m_is_names b_is_names runF
  simp [a1, a2, c_MOST_NAMES, hq, es]
structure Lp where
  names : List Str
  steps : List (List Int)
  tests : List Tst
def Lp.n (l : Lp) : Nat := l.names.length
structure LpOk (l : Lp) : Prop where
  n0 : l.names ≠ []
  n3 : l.n ≤ 3
  nd : l.names.Nodup
  nm : ∀ x ∈ l.names, NameOk x
  sl : l.steps.length = l.n
  st : ∀ i r, l.steps[i]? = some r → StepOk l.n i r
  t0 : l.tests ≠ []
  t4 : l.tests.length ≤ 4
  ts : ∀ t ∈ l.tests, TstOk l.n t
def Lp.unit (l : Lp) : List Int := 1 :: List.replicate l.n 0
def Lp.mat (l : Lp) : List (List Int) := l.unit :: l.steps
def lpNs : List Str := ["own_names", "own_steps", "own_by_name", "own_tests", "own_width", "own_matrix"]
def lpD (l : Lp) : D := .obj "Loop" lpNs [strsT l.names, rowsD l.steps, .dct (l.names.map .inr) (l.steps.map rowD), tstsD l.tests, .int ((l.n : Int) + 1), rowsD l.mat]
theorem setKs_new {k : Key} {ks : List Key} (h : k ∉ ks) : setKs k ks = ks ++ [k] := by
  unfold setKs
  rw [if_neg]
  intro z
  unfold hasK at z
  obtain ⟨q, hq, e⟩ := List.any_eq_true.mp z
  exact h (of_decide_eq_true e ▸ hq)
theorem setVs_new {α : Type} {k : Key} {y : α} {ks : List Key} {ds : List α} (h : k ∉ ks) : setVs k y ks ds = ds ++ [y] := by
  unfold setVs
  rw [if_neg]
  intro z
  unfold hasK at z
  obtain ⟨q, hq, e⟩ := List.any_eq_true.mp z
  exact h (of_decide_eq_true e ▸ hq)
/-- the dict of names and steps -/
theorem dc_names {ρ0 ρ1 ρ2 ρ3 : SV} : ∀ (ps : List (Str × List Int)) (ks : List Key) (acc : List D), ks.length + ps.length < 1000 → (ks ++ ps.map fun p => (Sum.inr p.1 : Key)).Nodup →
    dcM [4, 5] (.tp [.sl 4, .sl 5]) tYesM (mVar 4) (mVar 5) (ps.map fun p => .tup [.str p.1, rowD p.2]) ks acc [ρ0, ρ1, ρ2, ρ3, .un, .un] = .ok (ks ++ ps.map fun p => (Sum.inr p.1 : Key), acc ++ ps.map fun p => rowD p.2) [ρ0, ρ1, ρ2, ρ3, .un, .un]
  | [], ks, acc, _, _ => by simp [dcM]
  | p :: ps, ks, acc, hl, hn => by
    have hk : (Sum.inr p.1 : Key) ∉ ks := fun z => by
      rw [List.map_cons] at hn
      exact (List.nodup_append.mp hn).2.2 _ z _ (List.mem_cons_self ..) rfl
    rw [List.length_cons] at hl
    have ih := dc_names (ρ0 := ρ0) (ρ1 := ρ1) (ρ2 := ρ2) (ρ3 := ρ3) ps (ks ++ [.inr p.1]) (acc ++ [rowD p.2]) (by simp; omega) (by simpa using hn)
    have hs : ks.length < 16777216 := by omega
    have k1 : keyD (.str p.1) = some (.inr p.1) := rfl
    rw [List.map_cons, dcM]
    simp [k1, sizeLine_eq, hs, setKs_new hk, setVs_new hk, ih]
theorem e_loop {l : Lp} (h : LpOk l) : m_Loop___init__ (.ins true "Loop" [] []) [strsT l.names, rowsD l.steps, tstsD l.tests] = .ok .non (.ins true "Loop" lpNs [strsT l.names, rowsD l.steps, .dct (l.names.map .inr) (l.steps.map rowD), tstsD l.tests, .int ((l.n : Int) + 1), rowsD l.mat]) := by
  have e1 := e_is_names h.n0 h.n3 h.nd h.nm
  have e2 := e_are_steps h.n3 h.sl h.st
  have e3 := e_are_tests h.n3 h.t0 h.t4 h.ts
  have hz : zipMD [strsT l.names, rowsD l.steps] = .ok ((l.names.zip l.steps).map fun p => .tup [.str p.1, rowD p.2]) := by
    show FR.ok ((l.names.map D.str).zipWith (fun x y => D.tup [x, y]) (l.steps.map rowD)) = _
    rw [List.zipWith_map, List.zip, List.map_zipWith]
  have hd : d1_Loop___init__ [.ins true "Loop" ["own_names", "own_steps"] [strsT l.names, rowsD l.steps], .val (strsT l.names), .val (rowsD l.steps), .val (tstsD l.tests), .un, .un] = .ok (.dct (l.names.map .inr) (l.steps.map rowD)) [.ins true "Loop" ["own_names", "own_steps"] [strsT l.names, rowsD l.steps], .val (strsT l.names), .val (rowsD l.steps), .val (tstsD l.tests), .un, .un] := by
    have nk : ((l.names.zip l.steps).map fun p => (Sum.inr p.1 : Key)) = l.names.map .inr := by
      rw [show (fun p : Str × List Int => (Sum.inr p.1 : Key)) = (fun x => Sum.inr x) ∘ Prod.fst from rfl, ← List.map_map, List.map_fst_zip (by have := h.sl; unfold Lp.n at this; omega)]
    have ns : ((l.names.zip l.steps).map fun p => rowD p.2) = l.steps.map rowD := by
      rw [show (fun p : Str × List Int => rowD p.2) = rowD ∘ Prod.snd from rfl, ← List.map_map, List.map_snd_zip (by have := h.sl; unfold Lp.n at this; omega)]
    have q := dc_names (ρ0 := .ins true "Loop" ["own_names", "own_steps"] [strsT l.names, rowsD l.steps]) (ρ1 := .val (strsT l.names)) (ρ2 := .val (rowsD l.steps)) (ρ3 := .val (tstsD l.tests)) (l.names.zip l.steps) [] []
      (by have := h.n3; unfold Lp.n at this; simp; omega) (by rw [List.nil_append, nk]; exact List.pairwise_map.mpr (h.nd.imp fun ne e => ne (Sum.inr.inj e)))
    rw [List.nil_append, List.nil_append, nk, ns] at q
    unfold d1_Loop___init__ mDc
    simp [hz, q]
  have hq : q1_Loop___init__ [.ins true "Loop" ["own_names", "own_steps", "own_by_name", "own_tests", "own_width"] [strsT l.names, rowsD l.steps, .dct (l.names.map .inr) (l.steps.map rowD), tstsD l.tests, .int ((l.n : Int) + 1)], .val (strsT l.names), .val (rowsD l.steps), .val (tstsD l.tests), .un, .un] =
      .ok ((List.replicate l.n 0).map D.int) [.ins true "Loop" ["own_names", "own_steps", "own_by_name", "own_tests", "own_width"] [strsT l.names, rowsD l.steps, .dct (l.names.map .inr) (l.steps.map rowD), tstsD l.tests, .int ((l.n : Int) + 1)], .val (strsT l.names), .val (rowsD l.steps), .val (tstsD l.tests), .un, .un] := by
    unfold q1_Loop___init__
    simp
    rw [lcM_all (y := .int 0) _ rfl (by have := h.n3; unfold Lp.n at this; simp; omega) fun d hd => by
      obtain ⟨x, hx, rfl⟩ := List.mem_map.mp hd
      simp [turnM, e1_Loop___init__]]
    simp [Lp.n]
  have en : ((l.names.length : Nat) : Int) = (l.n : Int) := rfl
  have p1 : putN "own_names" [] = (["own_names"] : List Str) := rfl
  have p2 : putN "own_steps" ["own_names"] = (["own_names", "own_steps"] : List Str) := rfl
  have p3 : putN "own_by_name" ["own_names", "own_steps"] = (["own_names", "own_steps", "own_by_name"] : List Str) := rfl
  have p4 : putN "own_tests" ["own_names", "own_steps", "own_by_name"] = (["own_names", "own_steps", "own_by_name", "own_tests"] : List Str) := rfl
  have p5 : putN "own_width" ["own_names", "own_steps", "own_by_name", "own_tests"] = (["own_names", "own_steps", "own_by_name", "own_tests", "own_width"] : List Str) := rfl
  have p6 : putN "own_matrix" ["own_names", "own_steps", "own_by_name", "own_tests", "own_width"] = lpNs := rfl
  have x1 : ∀ y : D, putX "own_names" y [] [] = [y] := fun _ => rfl
  have x2 : ∀ a y : D, putX "own_steps" y ["own_names"] [a] = [a, y] := fun _ _ => rfl
  have x3 : ∀ a b y : D, putX "own_by_name" y ["own_names", "own_steps"] [a, b] = [a, b, y] := fun _ _ _ => rfl
  have x4 : ∀ a b c y : D, putX "own_tests" y ["own_names", "own_steps", "own_by_name"] [a, b, c] = [a, b, c, y] := fun _ _ _ _ => rfl
  have x5 : ∀ a b c d y : D, putX "own_width" y ["own_names", "own_steps", "own_by_name", "own_tests"] [a, b, c, d] = [a, b, c, d, y] := fun _ _ _ _ _ => rfl
  have x6 : ∀ a b c d e y : D, putX "own_matrix" y ["own_names", "own_steps", "own_by_name", "own_tests", "own_width"] [a, b, c, d, e] = [a, b, c, d, e, y] := fun _ _ _ _ _ _ => rfl
  have i1 : ∀ xs : List D, itemsD (.lst xs) = .ok xs := fun _ => rfl
  have i2 : itemsD (rowsD l.steps) = .ok (l.steps.map rowD) := rfl
  have t1 : tupD (D.int 1 :: List.map D.int (List.replicate l.n 0)) = .ok (rowD l.unit) := by
    rw [tupD_of (by have := h.n3; simp [sizeLine_eq]; omega)]; rfl
  have t2 : tupD (rowD l.unit :: l.steps.map rowD) = .ok (rowsD l.mat) := by
    rw [tupD_of (by have := h.sl; have := h.n3; simp [sizeLine_eq]; omega)]; rfl
  unfold m_Loop___init__ b_Loop___init__ runI
  simp only [List.map_replicate] at hq t1
  simp [en, e1, e2, e3, p1, p2, p3, p4, p5, p6, x1, x2, x3, x4, x5, x6, hd, hq, mStar, i1, i2, t1, t2]
end Pm
namespace Pm
open PySem PySem.Spec PyProof.Rows L2 Mr
def within (m : Int) (ns : List Int) : Bool := ns.all fun x => decide (-m ≤ x) && decide (x ≤ m)
inductive Sg where
  | more | least | null
  deriving DecidableEq
def Sg.s : Sg → Str
  | .more => Str.ofString "more"
  | .least => Str.ofString "least"
  | .null => Str.ofString "null"
structure Strand where
  g : Sg
  rows : List (List Int)
structure StrandOk (n : Nat) (s : Strand) : Prop where
  ne : s.rows ≠ []
  le : s.rows.length ≤ 6
  row : ∀ r ∈ s.rows, r.length = n ∧ ∀ x ∈ r, -99999999999999999999 ≤ x ∧ x ≤ 99999999999999999999
structure PackOk (n : Nat) (ss : List Strand) : Prop where
  h1 : 1 ≤ n
  h4 : n ≤ 4
  ne : ss ≠ []
  le : ss.length ≤ 12
  ok : ∀ s ∈ ss, StrandOk n s
structure PtOk (n : Nat) (p : List Int) : Prop where
  len : p.length = n
  sz : ∀ x ∈ p, Sz 600 x
theorem PtOk.row {n : Nat} {p : List Int} (h : PtOk n p) (h1 : 1 ≤ n) (h4 : n ≤ 4) : Row p := ⟨fun e => by have := h.len; subst e; simp at this; omega, by rw [h.len]; exact h4, h.sz⟩
end Pm
namespace Pm
open PySem PySem.Spec PyProof.Rows L2 Mr
mutual
/-- plain data: no objects, empty dicts alone -/
def plD : D → Bool
  | .non => true
  | .bl _ => true
  | .int _ => true
  | .str _ => true
  | .tup xs => decide (xs.length ≤ 1000) && plDs xs
  | .lst xs => decide (xs.length ≤ 1000) && plDs xs
  | .dct [] [] => true
  | _ => false
def plDs : List D → Bool
  | [] => true
  | d :: ds => plD d && plDs ds
end
theorem plDs_all : ∀ {xs : List D}, plDs xs = true ↔ ∀ x ∈ xs, plD x = true
  | [] => by simp [plDs]
  | d :: ds => by
    rw [plDs, Bool.and_eq_true, plDs_all]
    simp
/-- the cases of plain data -/
theorem plD_cases {P : D → Prop} {d : D} (h : plD d = true) (h1 : P .non) (h2 : ∀ b, P (.bl b)) (h3 : ∀ i, P (.int i)) (h4 : ∀ s, P (.str s)) (h5 : ∀ xs, xs.length ≤ 1000 → (∀ x ∈ xs, plD x = true) → P (.tup xs)) (h6 : ∀ xs, xs.length ≤ 1000 → (∀ x ∈ xs, plD x = true) → P (.lst xs)) (h7 : P (.dct [] [])) : P d := by
  cases d with
  | non => exact h1
  | bl b => exact h2 b
  | int i => exact h3 i
  | str s => exact h4 s
  | tup xs =>
    rw [plD, Bool.and_eq_true, decide_eq_true_eq, plDs_all] at h
    exact h5 xs h.1 h.2
  | lst xs =>
    rw [plD, Bool.and_eq_true, decide_eq_true_eq, plDs_all] at h
    exact h6 xs h.1 h.2
  | dct ks ds =>
    match ks, ds, h with
    | [], [], _ => exact h7
  | _ => simp [plD] at h
def intB : D → Bool
  | .int i => isI i
  | _ => false
theorem g_is_integer {d : D} (h : plD d = true) : m_is_integer [d] = .ok (.bl (intB d)) := by
  refine plD_cases (P := fun d => m_is_integer [d] = .ok (.bl (intB d))) h ?_ ?_ ?_ ?_ ?_ ?_ ?_
  · simp [m_is_integer, b_is_integer, runF, intB]
  · intro b; simp [m_is_integer, b_is_integer, runF, intB]
  · intro i; exact e_is_integer'
  · intro s; simp [m_is_integer, b_is_integer, runF, intB]
  · intro xs _ _; simp [m_is_integer, b_is_integer, runF, intB]
  · intro xs _ _; simp [m_is_integer, b_is_integer, runF, intB]
  · simp [m_is_integer, b_is_integer, runF, intB]
theorem lcM_same {vs : List Nat} {t : Tg} {el : M D} {ρ : Ro} (xs : List D) (F : D → D) (hp : plainR ρ vs = true) (hl : xs.length ≤ 1000000) (h : ∀ x ∈ xs, turnM vs t el ρ x = .ok (F x) ρ) : lcM vs t tYesM el xs [] ρ = .ok (xs.map F) ρ := by
  have := lcM_map (fun d : D => d) xs F hp (by rw [sizeLine_eq]; omega) h
  rwa [List.map_id'] at this
end Pm
namespace Pm
open PySem PySem.Spec PyProof.Rows L2 Mr
@[simp] theorem fld_width {l : Lp} : fldD ["Loop"] "own_width" (lpD l) = .ok (.int ((l.n : Int) + 1)) := id rfl
@[simp] theorem fld_mat {l : Lp} : fldD ["Loop"] "own_matrix" (lpD l) = .ok (rowsD l.mat) := id rfl
@[simp] theorem fld_names {l : Lp} : fldD ["Loop"] "own_names" (lpD l) = .ok (strsT l.names) := id rfl
@[simp] theorem fld_steps {l : Lp} : fldD ["Loop"] "own_steps" (lpD l) = .ok (rowsD l.steps) := id rfl
@[simp] theorem fld_tests {l : Lp} : fldD ["Loop"] "own_tests" (lpD l) = .ok (tstsD l.tests) := id rfl
@[simp] theorem isi_lpD {l : Lp} : isiOD (Str.ofString "Loop") (lpD l) = .ok (.bl true) := id rfl
structure StartOk (n : Nat) (X : List Int) : Prop where
  len : X.length = n + 1
  pos : ∀ x, X[0]? = some x → 1 ≤ x
  sz : ∀ x ∈ X, Sz 600 x
theorem StartOk.at0 {n : Nat} {X : List Int} (h : StartOk n X) : ∃ x r, X = x :: r ∧ 1 ≤ x ∧ r.length = n := by
  cases X with
  | nil => have := h.len; simp at this
  | cons x r => exact ⟨x, r, rfl, h.pos x rfl, by have := h.len; simpa using this⟩
def Lp.next (l : Lp) (X : List Int) : List Int := l.mat.map fun r => dot r X
@[simp] theorem next_len {l : Lp} {X : List Int} : (l.next X).length = l.mat.length := by unfold Lp.next; exact List.length_map _
theorem LpOk.mat_len {l : Lp} (h : LpOk l) : l.mat.length = l.n + 1 := by unfold Lp.mat; rw [List.length_cons, h.sl]
theorem LpOk.step_mem {l : Lp} (h : LpOk l) {r : List Int} (hr : r ∈ l.steps) : r.length = l.n + 1 ∧ small 20 r := by
  obtain ⟨i, hi, e⟩ := List.getElem_of_mem hr
  have q := h.st i r (by rw [← e]; exact List.getElem?_eq_getElem hi)
  exact ⟨q.len, q.sm⟩
theorem LpOk.mat_mem {l : Lp} (h : LpOk l) {r : List Int} (hr : r ∈ l.mat) : r.length = l.n + 1 ∧ small 20 r := by
  rcases List.mem_cons.mp hr with e | e
  · subst e
    refine ⟨by unfold Lp.unit; simp, fun x hx => ?_⟩
    unfold Lp.unit at hx
    rcases List.mem_cons.mp hx with e | e
    · omega
    · rw [List.eq_of_mem_replicate e]; omega
  · exact h.step_mem e
def dictD (l : Lp) : D := .dct [.inr (Str.ofString "words"), .inr (Str.ofString "moves"), .inr (Str.ofString "checks")] [strsT l.names, rowsD l.steps, tstsD l.tests]
@[simp] theorem get_words {l : Lp} : dgetD (dictD l) (.str (Str.ofString "words")) = .ok (strsT l.names) := id rfl
@[simp] theorem get_moves {l : Lp} : dgetD (dictD l) (.str (Str.ofString "moves")) = .ok (rowsD l.steps) := id rfl
@[simp] theorem get_checks {l : Lp} : dgetD (dictD l) (.str (Str.ofString "checks")) = .ok (tstsD l.tests) := id rfl
theorem e_made {l : Lp} (h : LpOk l) : m__law_made_loop [dictD l] = .ok (lpD l) := by
  unfold m__law_made_loop b__law_made_loop runF
  simp [e_loop h]
  rfl
end Pm
namespace Pm
open PySem PySem.Spec PyProof.Rows L2 Mr
/-- a loop over items by their places -/
theorem forM_at {t : Tg} {body : M Fl} {I : Nat → Ro → Prop} : ∀ (ds : List D) (n : Nat) (ρ : Ro), I n ρ → (∀ i d ρ, ds[i]? = some d → I (n + i) ρ → ∃ ρ', turnF t body ρ d = .ok .nx ρ' ∧ I (n + i + 1) ρ') → ∃ ρ', forM t body ds ρ = .ok .nx ρ' ∧ I (n + ds.length) ρ'
  | [], n, ρ, h, _ => ⟨ρ, by simp, h⟩
  | d :: ds, n, ρ, h, s => by
    obtain ⟨ρ1, e1, h1⟩ := s 0 d ρ rfl h
    obtain ⟨ρ2, e2, h2⟩ := forM_at ds (n + 1) ρ1 h1 fun i d ρ hd hI => by
      obtain ⟨ρ', e, h'⟩ := s (i + 1) d ρ hd (by rw [show n + (i + 1) = n + 1 + i by omega]; exact hI)
      exact ⟨ρ', e, by rw [show n + 1 + i + 1 = n + (i + 1) + 1 by omega]; exact h'⟩
    refine ⟨ρ2, ?_, by rw [List.length_cons, show n + (ds.length + 1) = n + 1 + ds.length by omega]; exact h2⟩
    have e1 : ((putT t d ρ).bind fun _ ρ => body ρ) = .ok .nx ρ1 := e1
    rw [ap_forC]
    cases ep : putT t d ρ with
    | ok u ρ' =>
      rw [ep] at e1
      have e1 : body ρ' = .ok .nx ρ1 := e1
      show ((body ρ').bind _) = _
      rw [e1]
      exact e2
    | exc x ρ' => rw [ep] at e1; cases e1
    | stuck => rw [ep] at e1; cases e1
/-- .. over range(n) -/
theorem forM_range {t : Tg} {body : M Fl} {I : Nat → Ro → Prop} (n : Nat) (ρ : Ro) (h0 : I 0 ρ) (h : ∀ i ρ, i < n → I i ρ → ∃ ρ', turnF t body ρ (.int (i : Nat)) = .ok .nx ρ' ∧ I (i + 1) ρ') : ∃ ρ', forM t body ((List.range n).map fun (k : Nat) => D.int k) ρ = .ok .nx ρ' ∧ I n ρ' := by
  obtain ⟨ρ', e, h'⟩ := forM_at (t := t) (body := body) (I := I) ((List.range n).map fun (k : Nat) => D.int k) 0 ρ h0 fun i d ρ hd hI => by
    rw [List.getElem?_map] at hd
    obtain ⟨k, hk, rfl⟩ := Option.map_eq_some_iff.mp hd
    obtain ⟨hl, e⟩ := List.getElem?_eq_some_iff.mp hk
    rw [List.getElem_range] at e
    subst e
    rw [List.length_range] at hl
    rw [Nat.zero_add] at hI
    obtain ⟨ρ', e, h'⟩ := h i ρ hl hI
    exact ⟨ρ', e, by rw [Nat.zero_add]; exact h'⟩
  refine ⟨ρ', e, ?_⟩
  rw [List.length_map, List.length_range, Nat.zero_add] at h'
  exact h'
theorem add_row {a b : List Int} (h : a.length + b.length ≤ 1000000) : addD (rowD a) (rowD b) = .ok (rowD (a ++ b)) := by
  show (if (a.map D.int).length + (b.map D.int).length ≤ sizeLine then FR.ok (D.tup (a.map .int ++ b.map .int)) else .stuck) = _
  rw [if_pos (by rw [sizeLine_eq]; simp; omega)]
  unfold rowD
  rw [List.map_append]
theorem add_row1 {a : List Int} {x : Int} (h : a.length ≤ 1000) : addD (rowD a) (.tup [.int x]) = .ok (rowD (a ++ [x])) := add_row (b := [x]) (by simp; omega)
theorem step_of {n i : Nat} {a : List Int} {x : Int} (hi : i < n) (la : a.length = i + 1) (sa : small 20 a) (hx : -9 ≤ x ∧ x ≤ 9) : StepOk n i (a ++ [x] ++ List.replicate (n - i - 1) 0) := by
  refine ⟨by simp [la]; omega, ?_, fun y hy => ?_, fun j y hj hy => ?_⟩
  · refine small.append (small.append sa fun y hy => ?_) fun y hy => ?_
    · rw [List.mem_singleton.mp hy]; omega
    · rw [List.eq_of_mem_replicate hy]; omega
  · rw [List.append_assoc, List.getElem?_append_right (by omega), la, Nat.sub_self] at hy
    cases hy; exact hx
  · rw [List.getElem?_append_right (by simp [la]; omega)] at hy
    exact List.eq_of_mem_replicate (List.mem_of_getElem? hy)
theorem nm_x : NameOk (Str.ofString "x") := ⟨by kernel_rfl, by decide +kernel⟩
theorem nm_y : NameOk (Str.ofString "y") := ⟨by kernel_rfl, by decide +kernel⟩
theorem nm_a : NameOk (Str.ofString "a") := ⟨by kernel_rfl, by decide +kernel⟩
theorem nm_n : NameOk (Str.ofString "n") := ⟨by kernel_rfl, by decide +kernel⟩
theorem nm_total : NameOk (Str.ofString "total") := ⟨by kernel_rfl, by decide +kernel⟩
theorem nm_zz : NameOk (Str.ofString "zzzzzzzz") := ⟨by kernel_rfl, by decide +kernel⟩
/-- names out of a dealt list -/
theorem names_of {ys : List D} {l : List Str} (p : List.Perm ys (l.map D.str)) (hn : l.Nodup) (hm : ∀ x ∈ l, NameOk x) (k : Nat) (h1 : 1 ≤ k) (hk : k ≤ l.length) : ∃ ns : List Str, ys.take k = ns.map .str ∧ ns.length = k ∧ ns.Nodup ∧ ∀ x ∈ ns, NameOk x := by
  obtain ⟨l', rfl, pp⟩ := perm_map p
  refine ⟨l'.take k, by rw [List.map_take], by rw [List.length_take, pp.length_eq]; omega, (pp.nodup_iff.mpr hn).sublist (List.take_sublist _ _), fun x hx => hm x (pp.mem_iff.mp (List.mem_of_mem_take hx))⟩
theorem names_ofP {P : Str → Prop} {ys : List D} {l : List Str} (p : List.Perm ys (l.map D.str)) (hn : l.Nodup) (hm : ∀ x ∈ l, P x) (k : Nat) (h1 : 1 ≤ k) (hk : k ≤ l.length) : ∃ ns : List Str, ys.take k = ns.map .str ∧ ns.length = k ∧ ns.Nodup ∧ ∀ x ∈ ns, P x := by
  obtain ⟨l', rfl, pp⟩ := perm_map p
  refine ⟨l'.take k, by rw [List.map_take], by rw [List.length_take, pp.length_eq]; omega, (pp.nodup_iff.mpr hn).sublist (List.take_sublist _ _), fun x hx => hm x (pp.mem_iff.mp (List.mem_of_mem_take hx))⟩
theorem e_wide_loop2 {xs : List D} {b : Nat} (h : Bowl b xs) (hb : b < 500000) : ∃ (l : Lp) (ys : List D), m__law_wide_loop (.own true xs) [] = .ok (dictD l) (.own true ys) ∧ LpOk l ∧ Bowl (b + 100) ys ∧ ∀ x ∈ l.names, x ≠ Str.ofString "other" := by
  obtain ⟨ds, x1, e1, p1, b1⟩ := e_dealtL (ds := [Str.ofString "x", Str.ofString "y", Str.ofString "a", Str.ofString "total", Str.ofString "zzzzzzzz", Str.ofString "n"].map D.str) h (by simp) (by omega)
  obtain ⟨j, x2, e2, j1, b2⟩ := e_bit b1 (m := 3) (by decide) (by decide) (by simp; omega)
  obtain ⟨ns, en, ln, dn, okn2⟩ := names_ofP (P := fun x => NameOk x ∧ x ≠ Str.ofString "other") p1 (by decide +kernel) (by
    intro x hx
    simp only [List.mem_cons, List.not_mem_nil, or_false] at hx
    rcases hx with rfl | rfl | rfl | rfl | rfl | rfl
    · exact ⟨nm_x, by decide +kernel⟩
    · exact ⟨nm_y, by decide +kernel⟩
    · exact ⟨nm_a, by decide +kernel⟩
    · exact ⟨nm_total, by decide +kernel⟩
    · exact ⟨nm_zz, by decide +kernel⟩
    · exact ⟨nm_n, by decide +kernel⟩) (1 + j) (by omega) (by simp; omega)
  have okn : ∀ x ∈ ns, NameOk x := fun x hx => (okn2 x hx).1
  have hz : sliceD (.lst ds) none (some (1 + (j : Int))) = .ok (.lst (ns.map .str)) := by
    show FR.ok (D.lst (Mr.cutD ds none (some (1 + (j : Int))))) = _
    rw [show (1 + (j : Int)) = ((1 + j : Nat) : Int) by omega, cut_take, en]
  obtain ⟨n, hn⟩ : ∃ n, n = ns.length := ⟨_, rfl⟩
  have n3 : n ≤ 3 := by omega
  -- the steps
  obtain ⟨ρ1, f1, zs, rows, v2, v7, rfl, hv2, hv7, hzs, hl, hst⟩ := forM_range (t := .sl 2) (body := y1__law_wide_loop)
    (I := fun i ρ => ∃ (zs : List D) (rows : List (List Int)) (v2 v7 : SV), ρ = [.own true zs, .val (strsT ns), v2, .un, .val (.int n), .own false (rows.map rowD), .own false [], v7] ∧ v2.isIo = false ∧ v7.isIo = false ∧ Bowl (b + 7 + 10 * i) zs ∧ rows.length = i ∧ ∀ k r, rows[k]? = some r → StepOk n k r)
    n [.own true x2, .val (strsT ns), .un, .un, .val (.int n), .own false [], .own false [], .un] ⟨x2, [], .un, .un, rfl, rfl, rfl, by simpa using b2, rfl, by simp⟩ (fun i ρ hi hI => by
      obtain ⟨zs, rows, v2, v7, rfl, hv2, hv7, hzs, hl, hst⟩ := hI
      obtain ⟨o, y1, ho, g1, c1⟩ := e_pickM D.int [0, 1, -1, 9, -9, 3] hzs (by simp) (by simp) (by omega)
      have o9 : -9 ≤ o ∧ o ≤ 9 := by
        simp only [List.mem_cons, List.not_mem_nil, or_false] at ho
        omega
      obtain ⟨r, y2, g2, lr, sr, c2⟩ := e_line c1 (n := i + 1) (M := 20) (by decide) (by decide) (by omega)
      have g2 : m__law_line (.own true y1) [.int ((i : Int) + 1), .int 20] = .ok (rowD r) (.own true y2) := g2
      have g3 := mul_zeroZ (i := (n : Int) - i - 1) (n := n - i - 1) (by omega) (by omega)
      have g4 := add_row1 (a := r) (x := o) (by omega)
      have g5 := add_row (a := r ++ [o]) (b := List.replicate (n - i - 1) 0) (by simp; omega)
      have hsz : rows.length < 16777216 := by omega
      refine ⟨[.own true y2, .val (strsT ns), .val (.int i), .un, .val (.int n), .own false ((rows ++ [r ++ [o] ++ List.replicate (n - i - 1) 0]).map rowD), .own false [], .val (.int o)], ?_, y2, _, _, _, rfl, rfl, rfl, c2.mono (by omega), by simp [hl], fun k q hq => ?_⟩
      · simp only [List.map_cons, List.map_nil] at g1
        simp [turnF, y1__law_wide_loop, hv2, hv7, lstD_of, tupD_of, sizeLine_eq, g1, g2, g3, g4, g5, hsz]
      · rw [List.getElem?_append] at hq
        split at hq
        · exact hst k q hq
        · rename_i hk
          have hk0 : k - rows.length = 0 := by
            cases hh : k - rows.length with
            | zero => rfl
            | succ m => rw [hh] at hq; cases hq
          rw [hk0] at hq
          cases hq
          have : k = i := by omega
          subst this
          exact step_of hi lr sr o9)
  -- the tests
  obtain ⟨c, x3, e3, c1, b3⟩ := e_bit hzs (m := 4) (by decide) (by decide) (by omega)
  obtain ⟨ρ2, f2, us, ts, v3, rfl, hv3, hus, hlt, htt⟩ := forM_range (t := .sl 3) (body := y2__law_wide_loop)
    (I := fun i ρ => ∃ (us : List D) (ts : List Tst) (v3 : SV), ρ = [.own true us, .val (strsT ns), v2, v3, .val (.int n), .own false (rows.map rowD), .own false (ts.map tstD), v7] ∧ v3.isIo = false ∧ Bowl (b + 40 + 10 * i) us ∧ ts.length = i ∧ ∀ t ∈ ts, TstOk n t)
    (1 + c) [.own true x3, .val (strsT ns), v2, .un, .val (.int n), .own false (rows.map rowD), .own false [], v7] ⟨x3, [], .un, rfl, rfl, b3.mono (by omega), rfl, by simp⟩ (fun i ρ hi hI => by
      obtain ⟨us, ts, v3, rfl, hv3, hus, hlt, htt⟩ := hI
      obtain ⟨m, y1, hm, g1, d1⟩ := e_pickM (fun m : Bool => D.str (sgS m)) [true, false] hus (by simp) (by simp) (by omega)
      obtain ⟨r, y2, g2, lr, sr, d2⟩ := e_line d1 (n := n + 1) (M := 99) (by decide) (by decide) (by omega)
      have g2 : m__law_line (.own true y1) [.int ((n : Int) + 1), .int 99] = .ok (rowD r) (.own true y2) := g2
      have g1 : m__law_pick (.own true us) [.lst [.str (Str.ofString "more"), .str (Str.ofString "least")]] = .ok (.str (sgS m)) (.own true y1) := g1
      have hsz : ts.length < 16777216 := by omega
      have ht : tupD [.str (sgS m), rowD r] = .ok (tstD (Tst.mk m r)) := rfl
      refine ⟨[.own true y2, .val (strsT ns), v2, .val (.int i), .val (.int n), .own false (rows.map rowD), .own false ((ts ++ [Tst.mk m r]).map tstD), v7], ?_, y2, _, _, rfl, rfl, d2.mono (by omega), by simp [hlt], fun t ht => ?_⟩
      · simp [turnF, y2__law_wide_loop, hv3, lstD_of, sizeLine_eq, g1, g2, hsz, ht]
      · rcases List.mem_append.mp ht with ht | ht
        · exact htt t ht
        · rw [List.mem_singleton.mp ht]; exact ⟨lr, sr⟩)
  refine ⟨⟨ns, rows, ts⟩, us, ?_, ⟨fun e => ?_, by show ns.length ≤ 3; omega, dn, okn, by show rows.length = ns.length; omega, fun i r hr => ?_, fun e => ?_, by show ts.length ≤ 4; omega, fun t ht => ?_⟩, hus.mono (by omega), fun x hx => (okn2 x hx).2⟩
  · have rn1 := rangeN n (by omega)
    have rn2 := rangeZ (i := 1 + (c : Int)) (n := 1 + c) (by omega) (by omega)
    have h1 : tupleD [.lst (ns.map .str)] = .ok (strsT ns) := rfl
    have h2 : lenD [strsT ns] = .ok (.int n) := by rw [hn]; simp
    have h3 : tupleD [.lst (rows.map rowD)] = .ok (rowsD rows) := rfl
    have h4 : tupleD [.lst (ts.map tstD)] = .ok (tstsD ts) := rfl
    simp only [List.map_cons, List.map_nil] at e1
    unfold m__law_wide_loop b__law_wide_loop f1__law_wide_loop f2__law_wide_loop runI
    simp [e1, e2, hz, h1, h2, h3, h4, lstD_of, sizeLine_eq, xParM, mMV, mMN, mMNil, putMs, rn1, f1, e3, rn2, f2, mDict]
    rfl
  · have e' : ns = [] := e
    rw [e'] at ln; simp at ln; omega
  · show StepOk ns.length i r
    rw [← hn]; exact hst i r hr
  · have e' : ts = [] := e
    rw [e'] at hlt; simp at hlt; omega
  · show TstOk ns.length t
    rw [← hn]; exact htt t ht
theorem e_wide_loop {xs : List D} {b : Nat} (h : Bowl b xs) (hb : b < 500000) : ∃ (l : Lp) (ys : List D), m__law_wide_loop (.own true xs) [] = .ok (dictD l) (.own true ys) ∧ LpOk l ∧ Bowl (b + 100) ys := by
  obtain ⟨l, ys, e, ok, by', _⟩ := e_wide_loop2 h hb
  exact ⟨l, ys, e, ok, by'⟩
end Pm
namespace Pm
open PySem PySem.Spec PyProof.Rows L2 Mr
def Tst.holds (t : Tst) (X : List Int) : Bool := if t.more then decide (dot t.f X > 0) else decide (dot t.f X ≥ 0)
def Lp.bads (l : Lp) (X : List Int) : List (Nat × Tst) := ((List.range l.tests.length).zip l.tests).filter fun p => !p.2.holds X
def Lp.bad (l : Lp) (X : List Int) : List Nat := (l.bads X).map (·.1)
theorem enum_tests {l : Lp} : enumD [tstsD l.tests] = .ok (((List.range l.tests.length).zip l.tests).map fun p => .tup [.int p.1, tstD p.2]) := by
  show FR.ok (enumL (l.tests.map tstD)) = _
  unfold enumL
  rw [List.length_map, List.zipWith_map_right, List.zip, List.map_zipWith]
theorem LpOk.test_mem {l : Lp} (h : LpOk l) {t : Tst} (ht : t ∈ l.tests) : t.f.length ≤ 4 ∧ ∀ x ∈ t.f, Sz 7 x := by
  have := h.ts t ht
  have n3 := h.n3
  exact ⟨by have := this.len; omega, this.sm.sz (by unfold Sz; decide)⟩
def Lp.ok (l : Lp) (X : List Int) : Bool := l.tests.all (·.holds X)
def Lp.at (l : Lp) : Nat → List Int → List Int
  | 0, X => X
  | k + 1, X => l.at k (l.next X)
/-- how many rounds until a test fails, of fewer than n -/
def Lp.first (l : Lp) : Nat → List Int → Option Nat
  | 0, _ => none
  | n + 1, X => if l.ok X = true then (l.first n (l.next X)).map (· + 1) else some 0
def oD : Option Nat → D
  | none => .non
  | some k => .int k
end Pm
namespace Pm
open PySem PySem.Spec PyProof.Rows L2 Mr
theorem cut_init {xs : List D} (h : xs ≠ []) : Mr.cutD xs none (some (-1)) = xs.take (xs.length - 1) := by
  have hl := List.length_pos_iff.mpr h
  unfold Mr.cutD
  have e1 : HT.sIx xs.length 0 none = 0 := rfl
  have e2 : HT.sIx xs.length xs.length (some (-1)) = xs.length - 1 := by
    unfold HT.sIx
    simp
    omega
  rw [e1, e2]; simp
theorem slice_init {r : List Int} (h : r ≠ []) : sliceD (rowD r) none (some (-1)) = .ok (rowD (r.take (r.length - 1))) := by
  rw [slice_row, cut_init (by simpa using h), List.length_map, ← List.map_take]; rfl
end Pm
namespace Pm
open PySem PySem.Spec PyProof.Rows L2 Mr
mutual
/-- no script's list in it -/
def nfD : D → Bool
  | .tup xs => nfDs xs
  | .lst xs => nfDs xs
  | .frz _ => false
  | _ => true
def nfDs : List D → Bool
  | [] => true
  | x :: xs => nfD x && nfDs xs
end
theorem nfDs_all : ∀ {xs : List D}, nfDs xs = true ↔ ∀ x ∈ xs, nfD x = true
  | [] => by simp [nfDs]
  | d :: ds => by rw [nfDs, Bool.and_eq_true, nfDs_all]; simp
mutual
theorem okX_of : ∀ (n : Nat) (d : D), okD n d = true → nfD d = true → okX n d = true ∧ pyX d = py d
  | _, .non, _, _ => ⟨by unfold okX; rfl, rfl⟩
  | _, .bl _, _, _ => ⟨by unfold okX; rfl, rfl⟩
  | _, .int _, _, _ => ⟨by unfold okX; rfl, rfl⟩
  | _, .str _, _, _ => ⟨by unfold okX; rfl, rfl⟩
  | 0, .tup xs, h, _ => by simp [okD] at h
  | n + 1, .tup xs, h, f => by
    obtain ⟨a, b⟩ := okXs_of n xs (by simpa [okD] using h) (by simpa [nfD] using f)
    exact ⟨by simpa [okX] using a, by rw [pyX, py, b]⟩
  | 0, .lst xs, h, _ => by simp [okD] at h
  | n + 1, .lst xs, h, f => by
    obtain ⟨a, b⟩ := okXs_of n xs (by simpa [okD] using h) (by simpa [nfD] using f)
    exact ⟨by simpa [okX] using a, by rw [pyX, py, b]⟩
  | _, .frz xs, _, f => by simp [nfD] at f
  | _, .obj _ _ _, h, _ => by simp [okD] at h
  | _, .dct _ _, h, _ => by simp [okD] at h
  | _, .opq _, h, _ => by simp [okD] at h
  | _, .any, h, _ => by simp [okD] at h
theorem okXs_of : ∀ (n : Nat) (ds : List D), okDs n ds = true → nfDs ds = true → okXs n ds = true ∧ pyXs ds = pys ds
  | _, [], _, _ => ⟨by unfold okXs; rfl, rfl⟩
  | n, x :: xs, h, f => by
    rw [okDs, Bool.and_eq_true] at h
    rw [nfDs, Bool.and_eq_true] at f
    obtain ⟨a, b⟩ := okX_of n x h.1 f.1
    obtain ⟨c, d⟩ := okXs_of n xs h.2 f.2
    exact ⟨by rw [okXs, a, c]; rfl, by rw [pyXs, pys, b, d]⟩
end
/-- its text has at most W signs -/
def ShX (W : Nat) (d : D) : Prop := (pyX d).shown.length ≤ W ∧ (pyX d).showable = true
theorem ShX.of {W n : Nat} {d : D} (h : ShW W d) (k : okD n d = true) (f : nfD d = true) : ShX W d := by
  unfold ShX
  rw [(okX_of n d k f).2]
  exact h
theorem e_reprX {d : D} {W : Nat} (h : ShX W d) (hk : okX 12 d = true) (hW : W ≤ 16000000) : Mr.reprX [d] = .ok (.str (pyX d).shown) := by
  show (if _ then _ else _) = _
  rw [if_pos ⟨hk, h.2, by rw [sizeLine_eq]; have := h.1; omega⟩]
theorem e_reprXD {d : D} {W : Nat} (h : ShW W d) (hk : okD 12 d = true) (f : nfD d = true) (hW : W ≤ 16000000) : Mr.reprX [d] = .ok (.str (py d).shown) := by
  obtain ⟨a, b⟩ := okX_of 12 d hk f
  rw [← b]
  exact e_reprX (.of h hk f) a hW
theorem NameOk.len {x : Str} (h : NameOk x) : 1 ≤ x.length ∧ x.length ≤ 8 ∧ ∀ c ∈ x.cps.toList, 97 ≤ c ∧ c ≤ 122 := by
  have := h.2
  rw [Bool.and_eq_true, Bool.and_eq_true, Bool.and_eq_true, decide_eq_true_eq, decide_eq_true_eq, List.all_eq_true] at this
  exact ⟨this.1.1.1, this.1.1.2, fun c hc => of_decide_eq_true (this.1.2 c hc)⟩
theorem NameOk.nobody {x : Str} (h : NameOk x) : (x == Str.ofString "nobody") = false := by
  have := h.2
  rw [Bool.and_eq_true, Bool.not_eq_true'] at this
  exact this.2
theorem sh_name {x : Str} (h : NameOk x) : ShW 100 (.str x) := by
  obtain ⟨_, h8, hc⟩ := h.len
  refine ⟨?_, rfl⟩
  show ((PyData.str x).shown).length ≤ _
  rw [PyData.shown_str]
  have := StrLaws.reprText_len x fun c m => by have := hc c m; omega
  omega
theorem sh_names {xs : List Str} (h : ∀ x ∈ xs, NameOk x) : ShW (xs.length * 102 + 4) (strsT xs) := by
  have := sh_tup (W := 100) (xs := xs.map .str) fun x hx => by
    obtain ⟨i, hi, rfl⟩ := List.mem_map.mp hx
    exact sh_name (h i hi)
  rw [List.length_map] at this
  exact this
@[simp] theorem nf_row {r : List Int} : nfD (rowD r) = true := by
  unfold rowD
  rw [nfD]
  exact nfDs_all.mpr fun x hx => by obtain ⟨i, _, rfl⟩ := List.mem_map.mp hx; rfl
@[simp] theorem nf_strs {r : List Str} : nfD (strsT r) = true := by
  unfold strsT
  rw [nfD]
  exact nfDs_all.mpr fun x hx => by obtain ⟨i, _, rfl⟩ := List.mem_map.mp hx; rfl
@[simp] theorem nf_rows {r : List (List Int)} : nfD (rowsD r) = true := by
  unfold rowsD
  rw [nfD]
  exact nfDs_all.mpr fun x hx => by obtain ⟨i, _, rfl⟩ := List.mem_map.mp hx; exact nf_row
@[simp] theorem nf_tsts {r : List Tst} : nfD (tstsD r) = true := by
  unfold tstsD
  rw [nfD]
  exact nfDs_all.mpr fun x hx => by
    obtain ⟨i, _, rfl⟩ := List.mem_map.mp hx
    unfold tstD
    rw [nfD, nfDs, nfDs, nfDs, nf_row]; rfl
theorem okD_strs {n : Nat} {xs : List Str} : okD (n + 1) (strsT xs) = true := by
  unfold strsT
  rw [okD_tup]
  exact okDs_all fun z hz => by obtain ⟨i, _, rfl⟩ := List.mem_map.mp hz; simp
theorem okD_rows {n : Nat} {rs : List (List Int)} : okD (n + 2) (rowsD rs) = true := by
  unfold rowsD
  rw [okD_tup]
  exact okDs_all fun z hz => by obtain ⟨i, _, rfl⟩ := List.mem_map.mp hz; simp
theorem okD_tsts {n : Nat} {ts : List Tst} : okD (n + 3) (tstsD ts) = true := by
  unfold tstsD
  rw [okD_tup]
  exact okDs_all fun z hz => by
    obtain ⟨i, _, rfl⟩ := List.mem_map.mp hz
    unfold tstD
    simp
theorem sh_rows {rs : List (List Int)} {k : Nat} (h : ∀ r ∈ rs, r.length ≤ k ∧ ∀ x ∈ r, Sz 1900 x) : ShW (rs.length * (k * 1923 + 6) + 4) (rowsD rs) := by
  have := sh_tup (W := k * 1923 + 4) (xs := rs.map rowD) fun x hx => by
    obtain ⟨r, hr, rfl⟩ := List.mem_map.mp hx
    have := Nat.mul_le_mul_right 1923 (h r hr).1
    exact (sh_row (h r hr).2).mono (by omega)
  rw [List.length_map] at this
  exact this
theorem sh_sg {b : Bool} : ShW 10 (.str (sgS b)) := by cases b <;> exact ⟨by decide +kernel, by decide +kernel⟩
theorem sh_tst {t : Tst} {k : Nat} (h : t.f.length ≤ k ∧ ∀ x ∈ t.f, Sz 1900 x) : ShW (2 * (k * 1923 + 16) + 4) (tstD t) := by
  have := sh_tup (W := k * 1923 + 14) (xs := [.str (sgS t.more), rowD t.f]) fun x hx => by
    simp only [List.mem_cons, List.not_mem_nil, or_false] at hx
    have := Nat.mul_le_mul_right 1923 h.1
    rcases hx with rfl | rfl
    · exact sh_sg.mono (by omega)
    · exact (sh_row h.2).mono (by omega)
  exact this
theorem sh_tsts {ts : List Tst} {k : Nat} (h : ∀ t ∈ ts, t.f.length ≤ k ∧ ∀ x ∈ t.f, Sz 1900 x) : ShW (ts.length * (2 * (k * 1923 + 16) + 6) + 4) (tstsD ts) := by
  have := sh_tup (W := 2 * (k * 1923 + 16) + 4) (xs := ts.map tstD) fun x hx => by
    obtain ⟨t, ht, rfl⟩ := List.mem_map.mp hx
    exact sh_tst (h t ht)
  rw [List.length_map] at this
  exact this
theorem LpOk.step_sz {l : Lp} (h : LpOk l) {r : List Int} (hr : r ∈ l.steps) : r.length ≤ 4 ∧ ∀ x ∈ r, Sz 1900 x := by
  obtain ⟨a, b⟩ := h.step_mem hr
  have := h.n3
  exact ⟨by omega, fun x hx => Sz.mono (a := 10) (Sz.of (by have := b x hx; omega) (by have := b x hx; omega)) (by decide)⟩
theorem LpOk.test_sz {l : Lp} (h : LpOk l) {t : Tst} (ht : t ∈ l.tests) : t.f.length ≤ 4 ∧ ∀ x ∈ t.f, Sz 1900 x := by
  obtain ⟨a, b⟩ := h.test_mem ht
  exact ⟨a, fun x hx => (b x hx).mono (by decide)⟩
theorem sh_lp {l : Lp} (h : LpOk l) : ShW 100000 (strsT l.names) ∧ ShW 100000 (rowsD l.steps) ∧ ShW 100000 (tstsD l.tests) ∧ ShW 100000 (rowsD l.mat) := by
  have n3 := h.n3
  have s3 := h.sl
  have t4 := h.t4
  refine ⟨(sh_names h.nm).mono ?_, (sh_rows (k := 4) fun r hr => h.step_sz hr).mono ?_, (sh_tsts (k := 4) fun t ht => h.test_sz ht).mono ?_, (sh_rows (k := 4) fun r hr => ?_).mono ?_⟩
  · have : l.names.length ≤ 3 := n3
    have := Nat.mul_le_mul_right 102 this; omega
  · have := Nat.mul_le_mul_right (4 * 1923 + 6) (show l.steps.length ≤ 3 by omega); omega
  · have := Nat.mul_le_mul_right (2 * (4 * 1923 + 16) + 6) t4; omega
  · obtain ⟨a, b⟩ := h.mat_mem hr
    exact ⟨by omega, fun x hx => Sz.mono (a := 10) (Sz.of (by have := b x hx; omega) (by have := b x hx; omega)) (by decide)⟩
  · have := Nat.mul_le_mul_right (4 * 1923 + 6) (show l.mat.length ≤ 4 by rw [h.mat_len]; omega); omega
end Pm
namespace Pm
open PySem PySem.Spec PyProof.Rows L2 Mr
@[simp] theorem tuple_rowD {X : List Int} : tupleD [rowD X] = .ok (rowD X) := id rfl
/-- the values of the tests -/
def Lp.vals (l : Lp) (X : List Int) : List Int := l.tests.map fun t => dot t.f X
end Pm
namespace Pm
open PySem PySem.Spec PyProof.Rows L2 Mr
section
variable {l : Lp} {d none count : D}
end
end Pm
namespace Pm
open PySem PySem.Spec PyProof.Rows L2 Mr
/-- max(1, min(m, n)) -/
theorem rounds_of (n m : Nat) (hm : 1 ≤ m) : ∃ N : Nat, (if (if (n : Int) < (m : Int) then (n : Int) else (m : Int)) > 1 then (if (n : Int) < (m : Int) then (n : Int) else (m : Int)) else 1) = (N : Int) ∧ N ≤ m := by
  by_cases c : (n : Int) < m
  · rw [if_pos c]
    by_cases c' : (n : Int) > 1
    · rw [if_pos c']; exact ⟨n, rfl, by omega⟩
    · rw [if_neg c']; exact ⟨1, rfl, by omega⟩
  · rw [if_neg c]
    by_cases c' : (m : Int) > 1
    · rw [if_pos c']; exact ⟨m, rfl, by omega⟩
    · rw [if_neg c']; exact ⟨1, rfl, by omega⟩
end Pm
namespace Pm
open PySem PySem.Spec PyProof.Rows L2 Mr
/-- what a strand's draw gives -/
structure Drawn (n M k : Nat) (s : Strand) : Prop where
  ne : s.rows ≠ []
  le : s.rows.length ≤ k
  row : ∀ r ∈ s.rows, r.length = n ∧ small M r
def negr (r : List Int) : List Int := r.map fun x => 0 - x
theorem Drawn.neg {n k : Nat} {s : Strand} {g : Sg} (h : Drawn n 2 k s) {j : Nat} (hj : 1 ≤ j) : Drawn n 2 k ⟨g, (s.rows.map negr).take j⟩ := by
  have l0 := List.length_pos_iff.mpr h.ne
  refine ⟨fun e => ?_, ?_, fun r hr => ?_⟩
  · have : ((s.rows.map negr).take j).length = 0 := by rw [show (s.rows.map negr).take j = [] from e]; rfl
    rw [List.length_take, List.length_map] at this
    omega
  · show ((s.rows.map negr).take j).length ≤ k
    rw [List.length_take, List.length_map]
    have := h.le
    omega
  · obtain ⟨q, hq, rfl⟩ := List.mem_map.mp (List.mem_of_mem_take hr)
    obtain ⟨l, b⟩ := h.row q hq
    refine ⟨by unfold negr; rw [List.length_map]; exact l, fun x hx => ?_⟩
    obtain ⟨y, hy, rfl⟩ := List.mem_map.mp hx
    have := b y hy
    omega
end Pm
namespace Pm
open PySem PySem.Spec PyProof.Rows L2 Mr
def nz (ss : List Strand) (p : List Int) : List (List Int) := ss.flatMap fun s => s.rows.filter fun r => dot r p != 0
end Pm
namespace Pm
open PySem PySem.Spec PyProof.Rows L2 Mr
theorem Drawn.ok {n M k : Nat} {s : Strand} (h : Drawn n M k s) (hM : M < 1000) (hk : k ≤ 6) : StrandOk n s :=
  ⟨h.ne, by have := h.le; omega, fun r hr => ⟨(h.row r hr).1, fun x hx => by have := (h.row r hr).2 x hx; omega⟩⟩
/-- a spot of the law -/
structure Spot (n : Nat) (p : List Int) : Prop where
  len : p.length = n
  sm : ∀ x ∈ p, -2 ≤ x ∧ x ≤ 2
theorem Spot.sz {n : Nat} {p : List Int} (h : Spot n p) : ∀ x ∈ p, Sz 2 x := fun x hx => by have := h.sm x hx; unfold Sz; omega
theorem Spot.pt {n : Nat} {p : List Int} (h : Spot n p) : PtOk n p := ⟨h.len, fun x hx => (h.sz x hx).mono (by decide)⟩
end Pm
namespace Pm
open PySem PySem.Spec PyProof.Rows L2 Mr
section
variable {n : Nat} {ss ts : List Strand} {m : List D → FR D}
end
end Pm
namespace Pm
open PySem PySem.Spec PyProof.Rows L2 Mr
section
variable {n : Nat} {ss ts : List Strand} {m : List D → FR D}
theorem empty_app (a : Str) : Str.empty ++ a = a := by
  cases a with
  | mk c =>
    show (⟨#[] ++ c⟩ : Str) = _
    simp
theorem log_small {i : Nat} (h : i ≤ 1000) : (i : Int).natAbs.log2 < 1920 := by
  have : (i : Int).natAbs = i := by omega
  rw [this]
  exact Nat.lt_of_le_of_lt (Nat.log2_le_self i) (by omega)
def nT (i : Nat) : Str := Str.ofString (toString (i : Int))
theorem len_toStr {i : Nat} (h : i ≤ 1000) : (nT i).length ≤ 1921 := int_text_len_1921 (log_small h)
theorem j_cons {f : M D} {r : Str → M D} {acc y : Str} {ρ ρ' : Ro} (h : f ρ = .ok (.str y) ρ') (hl : (acc ++ y).length ≤ 1000000) : jCons f r acc ρ = r (acc ++ y) ρ' := by
  unfold jCons
  rw [h]
  exact if_pos (by rw [sizeLine_eq]; omega)
theorem fmt_int {i : Nat} (h : i ≤ 1000) : fmtD (.int i) = .ok (.str (nT i)) := if_pos (log_small h)
theorem str_int {i : Nat} (h : i ≤ 1000) : strD [.int i] = .ok (.str (nT i)) := if_pos (log_small h)
theorem add_strs {a b : Str} (h : a.length + b.length ≤ 1000000) : addD (.str a) (.str b) = .ok (.str (a ++ b)) := if_pos (by rw [sizeLine_eq]; omega)
end
end Pm
namespace Pm
open PySem PySem.Spec PyProof.Rows L2 Mr
theorem find_at : ∀ {ks : List Key} {ds : List D} {i : Nat} {k : Key} {d : D}, ks.Nodup → ks[i]? = some k → ds[i]? = some d → findK ks ds k = some d
  | [], _, _, _, _, _, h, _ => by simp at h
  | _ :: _, [], _, _, _, _, _, h => by simp at h
  | q :: ks, e :: ds, 0, k, d, _, h1, h2 => by
    simp at h1 h2
    subst h1 h2
    unfold findK; rw [if_pos rfl]
  | q :: ks, e :: ds, i + 1, k, d, n, h1, h2 => by
    rw [List.getElem?_cons_succ] at h1 h2
    have n' := List.nodup_cons.mp n
    have ne : q ≠ k := fun z => n'.1 (z ▸ List.mem_of_getElem? h1)
    unfold findK; rw [if_neg ne]
    exact find_at n'.2 h1 h2
section
variable {l : Lp}
theorem cls_lp {m : List D → FR D} : clsD [(Str.ofString "Loop", m)] (lpD l) = noxF (m [lpD l]) := id rfl
@[simp] theorem c_names : clsD [(Str.ofString "Loop", m_Loop_names)] (lpD l) = .ok (strsT l.names) := id rfl
@[simp] theorem c_steps : clsD [(Str.ofString "Loop", m_Loop_steps)] (lpD l) = .ok (rowsD l.steps) := id rfl
@[simp] theorem c_tests : clsD [(Str.ofString "Loop", m_Loop_tests)] (lpD l) = .ok (tstsD l.tests) := id rfl
@[simp] theorem c_width' : clsD [(Str.ofString "Loop", m_Loop_width)] (lpD l) = .ok (.int ((l.n : Int) + 1)) := id rfl
@[simp] theorem c_matrix : clsD [(Str.ofString "Loop", m_Loop_matrix)] (lpD l) = .ok (rowsD l.mat) := by
  have e : m_Loop_matrix [lpD l] = .ok (rowsD l.mat) := by
    unfold m_Loop_matrix b_Loop_matrix runF
    simp
  rw [cls_lp, e]; rfl
theorem nat_ok {n : Int} (h : 0 ≤ n) (h2 : n < 1000000) : natR (.ok (.int n)) = .ok (.int n) := by
  have q : n < 2 ^ 63 := by omega
  unfold natR
  simp only
  rw [if_pos ⟨h, q⟩]
theorem c_len (h : LpOk l) : lenW "Loop" m_Loop___len__ [lpD l] = .ok (.int l.tests.length) := by
  have t4 := h.t4
  have e2 : m_Loop___len__ [lpD l] = .ok (.int l.tests.length) := by
    unfold m_Loop___len__ b_Loop___len__ runF
    simp
  have e : lenW "Loop" m_Loop___len__ [lpD l] = natR (m_Loop___len__ [lpD l]) := by
    unfold lpD lenW
    simp
  rw [e, e2, nat_ok (by omega) (by omega)]
/-- the multipliers -/
def Lp.own (l : Lp) : List Int := ((List.range l.steps.length).zip l.steps).map fun p => p.2.getD (p.1 + 1) 0
theorem enum_steps : enumD [rowsD l.steps] = .ok (((List.range l.steps.length).zip l.steps).map fun p => .tup [.int p.1, rowD p.2]) := by
  show FR.ok (enumL (l.steps.map rowD)) = _
  unfold enumL
  rw [List.length_map, List.zipWith_map_right, List.zip, List.map_zipWith]
theorem own_at {p : Nat × List Int} (h : LpOk l) (hp : p ∈ (List.range l.steps.length).zip l.steps) : ixD (rowD p.2) (.int ((p.1 : Int) + 1)) = .ok (.int (p.2.getD (p.1 + 1) 0)) := by
  obtain ⟨i, hi, e⟩ := List.getElem_of_mem hp
  rw [List.getElem_zip, List.getElem_range] at e
  subst e
  have hs : i < l.steps.length := by rw [List.length_zip] at hi; omega
  have q := h.st i _ (List.getElem?_eq_getElem hs)
  have lt : i + 1 < l.steps[i].length := by rw [q.len]; have := h.sl; omega
  refine ixD_rowZ (k := i + 1) (by push_cast; rfl) ?_
  rw [List.getElem?_eq_getElem lt, List.getD_eq_getElem?_getD, List.getElem?_eq_getElem lt]
  rfl
theorem q_mult (h : LpOk l) : q1_Loop_multipliers [.val (lpD l), .un, .un] = .ok (l.own.map .int) [.val (lpD l), .un, .un] := by
  have n3 := h.n3
  have sl := h.sl
  unfold q1_Loop_multipliers
  simp [enum_steps]
  rw [lcM_map (fun p : Nat × List Int => D.tup [.int p.1, rowD p.2]) _ (fun p => .int (p.2.getD (p.1 + 1) 0)) rfl (by rw [sizeLine_eq]; simp; omega) fun p hp => by
    simp [turnM, e1_Loop_multipliers, own_at h hp]]
  unfold Lp.own
  rw [List.map_map]
  rfl
theorem c_mult (h : LpOk l) : clsD [(Str.ofString "Loop", m_Loop_multipliers)] (lpD l) = .ok (rowD l.own) := by
  have e : m_Loop_multipliers [lpD l] = .ok (rowD l.own) := by
    unfold m_Loop_multipliers b_Loop_multipliers runF
    simp [q_mult h]
    rfl
  rw [cls_lp, e]; rfl
theorem ixW_lp {m : List D → FR D} {d : D} : ixW "Loop" m (lpD l) d = noxF (m [lpD l, d]) := by
  unfold ixW lpD
  exact if_pos rfl
theorem ninO_lp {m : List D → FR D} {d : D} : ninO "Loop" m d (lpD l) = nboolR (m [lpD l, d]) := by
  unfold ninO lpD
  exact if_pos rfl
theorem strW_lp {m : List D → FR D} : strW "Loop" m [lpD l] = strR (m [lpD l]) := by
  unfold strW lpD
  exact if_pos rfl
theorem fld_byname : fldD ["Loop"] "own_by_name" (lpD l) = .ok (.dct (l.names.map .inr) (l.steps.map rowD)) := id rfl
theorem find_step (h : LpOk l) {i : Nat} {x : Str} {r : List Int} (hx : l.names[i]? = some x) (hr : l.steps[i]? = some r) : findK (l.names.map .inr) (l.steps.map rowD) (.inr x) = some (rowD r) := by
  refine find_at (i := i) ?_ (by rw [List.getElem?_map, hx]; rfl) (by rw [List.getElem?_map, hr]; rfl)
  exact List.pairwise_map.mpr (h.nd.imp fun ne e => ne (Sum.inr.inj e))
theorem e_getitem (h : LpOk l) {i : Nat} {x : Str} {r : List Int} (hx : l.names[i]? = some x) (hr : l.steps[i]? = some r) : m_Loop___getitem__ [lpD l, .str x] = .ok (rowD r) := by
  have f := find_step h hx hr
  have e1 : Mr.ninX (.str x) (.dct (l.names.map .inr) (l.steps.map rowD)) = .ok (.bl false) := by
    show FR.ok (D.bl (!(findK (l.names.map .inr) (l.steps.map rowD) (.inr x)).isSome)) = _
    rw [f]; rfl
  have e2 : dgetD (.dct (l.names.map .inr) (l.steps.map rowD)) (.str x) = .ok (rowD r) := by
    show (match findK (l.names.map .inr) (l.steps.map rowD) (.inr x) with | some d => FR.ok d | none => .stuck) = _
    rw [f]
  have e3 : isiD [.str x, .opq (.ty "str")] = .ok (.bl true) := by simp
  unfold m_Loop___getitem__ b_Loop___getitem__ runF
  simp [e3, fld_byname, e1, e2]
theorem in_strs {xs : List Str} {x : Str} (hx : x ∈ xs) : inD (.str x) (strsT xs) = .ok (.bl true) := by
  show (if okD 12 (.str x) = true ∧ okDs 12 (xs.map D.str) = true then FR.ok (D.bl ((xs.map D.str).any fun y => eqv y (.str x))) else .stuck) = _
  rw [if_pos ⟨by simp, okDs_all fun z hz => by obtain ⟨i, _, rfl⟩ := List.mem_map.mp hz; simp⟩]
  congr 2
  exact List.any_eq_true.mpr ⟨.str x, List.mem_map.mpr ⟨x, hx, rfl⟩, eqv_self (n := 1) (by simp)⟩
theorem e_containsL {x : Str} (hx : x ∈ l.names) : m_Loop___contains__ [lpD l, .str x] = .ok (.bl true) := by
  have e3 : isiD [.str x, .opq (.ty "str")] = .ok (.bl true) := by simp
  unfold m_Loop___contains__ b_Loop___contains__ runF
  simp [e3, in_strs hx]
def lpT (n t : Nat) : Str := Str.ofString "loop of " ++ nT n ++ Str.ofString " names, " ++ nT t ++ Str.ofString " tests"
theorem split_lpT : ∀ n ∈ [1, 2, 3], ∀ t ∈ [1, 2, 3, 4], splitN (.str (lpT n t)) (.str (Str.ofString " ")) = .ok [.str (Str.ofString "loop"), .str (Str.ofString "of"), .str (nT n), .str (Str.ofString "names,"), .str (nT t), .str (Str.ofString "tests")] := by
  intro n hn t ht
  simp only [List.mem_cons, List.not_mem_nil, or_false] at hn ht
  rcases hn with rfl | rfl | rfl <;> rcases ht with rfl | rfl | rfl | rfl <;> kernel_rfl
theorem w_str_lp (hn : l.n ≤ 100) (hl : l.tests.length ≤ 100) : strW "Loop" m_Loop___str__ [lpD l] = .ok (.str (lpT l.n l.tests.length)) := by
  have l1 := len_toStr (i := l.n) (by omega)
  have l2 := len_toStr (i := l.tests.length) (by omega)
  have a1 : (Str.ofString "loop of ").length = 8 := by decide +kernel
  have a2 : (Str.ofString " names, ").length = 8 := by decide +kernel
  have a3 : (Str.ofString " tests").length = 6 := by decide +kernel
  have e : m_Loop___str__ [lpD l] = .ok (.str (lpT l.n l.tests.length)) := by
    have f1 : m1 fmtD (mL lenD (mCons (m1 (fldD ["Loop"] "own_names") (mVar 0)) mNil)) [.val (lpD l)] = .ok (.str (nT l.n)) [.val (lpD l)] := by
      have : fmtD (.int (l.names.length : Nat)) = .ok (.str (nT l.n)) := fmt_int (i := l.n) (by omega)
      simp [this]
    have f2 : m1 fmtD (mL lenD (mCons (m1 (fldD ["Loop"] "own_tests") (mVar 0)) mNil)) [.val (lpD l)] = .ok (.str (nT l.tests.length)) [.val (lpD l)] := by
      simp [fmt_int (i := l.tests.length) (by omega)]
    have g : mFstr (jCons (mC (.str (Str.ofString "loop of "))) (jCons (m1 fmtD (mL lenD (mCons (m1 (fldD ["Loop"] "own_names") (mVar 0)) mNil))) (jCons (mC (.str (Str.ofString " names, "))) (jCons (m1 fmtD (mL lenD (mCons (m1 (fldD ["Loop"] "own_tests") (mVar 0)) mNil))) (jCons (mC (.str (Str.ofString " tests"))) jNil))))) [.val (lpD l)] = .ok (.str (lpT l.n l.tests.length)) [.val (lpD l)] := by
      unfold mFstr lpT
      rw [j_cons (ap_C (d := .str (Str.ofString "loop of "))) (by rw [empty_app]; omega), empty_app, j_cons f1 (by rw [Str.length_append]; omega), j_cons ap_C (by rw [Str.length_append, Str.length_append]; omega), j_cons f2 (by rw [Str.length_append, Str.length_append, Str.length_append]; omega),
        j_cons ap_C (by rw [Str.length_append, Str.length_append, Str.length_append, Str.length_append]; omega)]
      rfl
    unfold m_Loop___str__ b_Loop___str__ runF
    show (match (xRet _ [SV.val (lpD l)] : R Fl) with | .ok (.nx) _ => FR.ok D.non | .ok (.rt d) _ => .ok d | .exc x _ => .exc x | _ => .stuck) = _
    rw [ap_Ret, g]
    rfl
  rw [strW_lp, e]
  rfl
@[simp] theorem ap_SplitN {fo fe : M D} {ρ : Ro} : mSplitN fo fe ρ = (fo ρ).bind fun d ρ => match d with
  | .str a => (fe ρ).bind fun x ρ => (splitN (.str a) x).lift ρ
  | _ => .stuck := id rfl
theorem q1_loop (h : LpOk l) {a : SV} : q1__law_is_loop [.val (lpD l), .val (dictD l), .un, .val (strsT l.names), .val (rowsD l.steps), .val (tstsD l.tests), a, .un, .un, .un] = .ok (l.own.map .int) [.val (lpD l), .val (dictD l), .un, .val (strsT l.names), .val (rowsD l.steps), .val (tstsD l.tests), a, .un, .un, .un] := by
  have n3 := h.n3
  have sl := h.sl
  unfold q1__law_is_loop
  simp [enum_steps]
  rw [lcM_map (fun p : Nat × List Int => D.tup [.int p.1, rowD p.2]) _ (fun p => .int (p.2.getD (p.1 + 1) 0)) rfl (by rw [sizeLine_eq]; simp; omega) fun p hp => by
    simp [turnM, e1__law_is_loop, own_at h hp]]
  unfold Lp.own
  rw [List.map_map]
  rfl
theorem q2_loop (h : LpOk l) {a b : SV} : q2__law_is_loop [.val (lpD l), .val (dictD l), b, .val (strsT l.names), .val (rowsD l.steps), .val (tstsD l.tests), a, .un, .un, .un] = .ok [] [.val (lpD l), .val (dictD l), b, .val (strsT l.names), .val (rowsD l.steps), .val (tstsD l.tests), a, .un, .un, .un] := by
  have n3 : l.names.length ≤ 3 := h.n3
  have sl : l.steps.length = l.names.length := h.sl
  have hz : zipMD [strsT l.names, rowsD l.steps] = .ok ((l.names.zip l.steps).map fun p => .tup [.str p.1, rowD p.2]) := by
    show FR.ok ((l.names.map D.str).zipWith (fun x y => D.tup [x, y]) (l.steps.map rowD)) = _
    rw [List.zipWith_map, List.zip, List.map_zipWith]
  unfold q2__law_is_loop
  simp [hz]
  rw [lcM_opt (fun p : Str × List Int => D.tup [.str p.1, rowD p.2]) _ (fun _ => none) rfl (by rw [sizeLine_eq]; simp; omega) fun p hp => by
    obtain ⟨i, hi, e⟩ := List.getElem_of_mem hp
    rw [List.getElem_zip] at e
    subst e
    rw [List.length_zip] at hi
    have hx : l.names[i]? = some l.names[i] := List.getElem?_eq_getElem (by omega)
    have hr : l.steps[i]? = some l.steps[i] := List.getElem?_eq_getElem (by omega)
    have g := e_getitem h hx hr
    have c := e_containsL (l := l) (List.mem_of_getElem? hx)
    have s := h.step_sz (List.mem_of_getElem? hr)
    have r1 := e_reprXD (sh_row s.2) (by simp) nf_row (by have := s.1; omega)
    simp [turnO, ixW_lp, ninO_lp, g, c, r1, noxF, nboolR]]
  simp
theorem e_is_loop (h : LpOk l) : m__law_is_loop [lpD l, dictD l] = .ok (.bl true) := by
  have n3 : l.names.length ≤ 3 := h.n3
  have n1 := List.length_pos_iff.mpr h.n0
  have t1 := List.length_pos_iff.mpr h.t0
  have t4 := h.t4
  obtain ⟨sn, ss, st, sm⟩ := sh_lp h
  have cm := c_mult h
  have cl := c_len h
  have q1 := q1_loop h (a := .val (.int l.names.length))
  have q2 := q2_loop h (a := .val (.int l.names.length)) (b := .val (rowD l.own))
  have r1 : Mr.reprX [.lst [strsT l.names, rowsD l.steps, tstsD l.tests]] = .ok (.str (py (.lst [strsT l.names, rowsD l.steps, tstsD l.tests])).shown) := e_reprXD (sh_lst (W := 100000) fun x hx => by
    simp only [List.mem_cons, List.not_mem_nil, or_false] at hx
    rcases hx with rfl | rfl | rfl <;> assumption) (by rw [okD_lst, okDs_cons, okDs_cons, okDs_cons, okD_strs, okD_rows, okD_tsts]; rfl) (by rw [nfD, nfDs, nfDs, nfDs, nfDs, nf_strs, nf_rows, nf_tsts]; rfl) (by simp)
  have r2 := e_reprXD sm okD_rows nf_rows (by decide)
  have mz : mulD (.tup [.int 0]) (.int l.names.length) = .ok (rowD (List.replicate l.n 0)) := mul_zeroZ (n := l.n) rfl (show l.names.length ≤ 1000 by omega)
  have a1 : addD (.tup [.int 1]) (rowD (List.replicate l.n 0)) = .ok (rowD l.unit) := add_row (a := [1]) (b := List.replicate l.n 0) (by simp; unfold Lp.n; omega)
  have a2 : addD (.tup [rowD l.unit]) (rowsD l.steps) = .ok (rowsD l.mat) := by
    show (if 1 + (l.steps.map rowD).length ≤ sizeLine then FR.ok (D.tup (rowD l.unit :: l.steps.map rowD)) else .stuck) = _
    rw [if_pos (by rw [sizeLine_eq, List.length_map]; have : l.steps.length = l.names.length := h.sl; omega)]
    rfl
  have w := w_str_lp (l := l) (by unfold Lp.n; omega) (by omega)
  have sp := split_lpT l.n (by unfold Lp.n; simp; omega) l.tests.length (by simp; omega)
  have s1 : strD [.int (l.names.length : Nat)] = .ok (.str (nT l.n)) := str_int (i := l.n) (show l.names.length ≤ 1000 by omega)
  have s2 := str_int (i := l.tests.length) (by omega)
  have en : ((l.n : Nat) : Int) = (l.names.length : Int) := rfl
  have e1 : tupleD [.lst (l.own.map .int)] = .ok (rowD l.own) := rfl
  have fin : eqD (.lst [.str (Str.ofString "loop"), .str (Str.ofString "of"), .str (nT l.n), .str (Str.ofString "names,"), .str (nT l.tests.length), .str (Str.ofString "tests")]) (.lst [.str (Str.ofString "loop"), .str (Str.ofString "of"), .str (nT l.n), .str (Str.ofString "names,"), .str (nT l.tests.length), .str (Str.ofString "tests")]) = .ok (.bl true) := op_eqS (by simp)
  unfold m__law_is_loop b__law_is_loop runF
  simp [r1, cm, cl, q1, q2, r2, mz, a1, a2, w, sp, s1, s2, e1, fin, lstD_of, tupD_of, sizeLine_eq, en, op_neS]
end
end Pm
namespace Pm
open PySem PySem.Spec PyProof.Rows L2 Mr
theorem eq_strs {a b : Str} : eqD (.str a) (.str b) = .ok (.bl (a == b)) := by
  unfold eqD
  rw [if_pos ⟨by simp, by simp⟩]
  rfl
section
variable {l : Lp} {d e g r : D}
theorem any_strs {s : Str} : ∀ (xs : List Str), ((xs.map D.str).any fun y => eqv y (.str s)) = xs.contains s
  | [] => rfl
  | x :: xs => by
    rw [List.map_cons, List.any_cons, any_strs xs, List.contains_cons]
    congr 1
    have : eqv (.str x) (.str s) = (x == s) := rfl
    rw [this, Bool.eq_iff_iff, beq_iff_eq, beq_iff_eq]
    exact eq_comm
theorem nin_names {s : Str} : ninD (.str s) (strsT l.names) = .ok (.bl (!l.names.contains s)) := by
  show (if okD 12 (.str s) = true ∧ okDs 12 (l.names.map D.str) = true then FR.ok (D.bl (!(l.names.map D.str).any fun y => eqv y (.str s))) else .stuck) = _
  rw [if_pos ⟨by simp, okDs_all fun z hz => by obtain ⟨i, _, rfl⟩ := List.mem_map.mp hz; simp⟩, any_strs]
theorem name_ok {s : Str} (h : s ∈ l.names) : m_require_name [lpD l, .str s] = .ok .non := by
  simp [m_require_name, b_require_name, runF, nin_names, h]
def signB : D → Bool
  | .str s => [c_MORE, c_LEAST].contains s
  | _ => false
theorem g_is_sign (h : plD d = true) : m_is_sign [d] = .ok (.bl (signB d)) := by
  refine plD_cases (P := fun d => m_is_sign [d] = .ok (.bl (signB d))) h ?_ ?_ ?_ ?_ ?_ ?_ ?_
  · simp [m_is_sign, b_is_sign, runF, signB]
  · intro b; simp [m_is_sign, b_is_sign, runF, signB]
  · intro i; simp [m_is_sign, b_is_sign, runF, signB]
  · intro s
    have e : inD (.str s) (.tup c_SIGNS) = .ok (.bl ([c_MORE, c_LEAST].contains s)) := by
      have es : c_SIGNS = [c_MORE, c_LEAST].map D.str := rfl
      show (if okD 12 (.str s) = true ∧ okDs 12 c_SIGNS = true then FR.ok (D.bl (c_SIGNS.any fun y => eqv y (.str s))) else .stuck) = _
      rw [es, if_pos ⟨by simp, by simp⟩, any_strs]
    simp [m_is_sign, b_is_sign, runF, signB, e]
  · intro xs _ _; simp [m_is_sign, b_is_sign, runF, signB]
  · intro xs _ _; simp [m_is_sign, b_is_sign, runF, signB]
  · simp [m_is_sign, b_is_sign, runF, signB]
theorem sign_ok (h : plD d = true) (hb : signB d = true) : m_require_sign [d] = .ok .non := by
  have q := g_is_sign h
  rw [hb] at q
  simp [m_require_sign, b_require_sign, runF, q]
theorem mk_steps {xs : List Str} {ds ts : D} (h : m_is_names [strsT xs] = .ok (.bl true)) (hs : m_are_steps [ds, .int ((xs.length : Int) + 1)] = .ok (.bl false)) : m_Loop___init__ (.ins true "Loop" [] []) [strsT xs, ds, ts] = .exc (exE (Str.ofString "InvalidLoop")) (.ins true "Loop" [] []) := by
  unfold m_Loop___init__ b_Loop___init__ runI
  simp [h, hs]
theorem mk_tests {xs : List Str} {ds ts : D} (h : m_is_names [strsT xs] = .ok (.bl true)) (hs : m_are_steps [ds, .int ((xs.length : Int) + 1)] = .ok (.bl true)) (ht : m_are_tests [ts, .int ((xs.length : Int) + 1)] = .ok (.bl false)) : m_Loop___init__ (.ins true "Loop" [] []) [strsT xs, ds, ts] = .exc (exE (Str.ofString "InvalidLoop")) (.ins true "Loop" [] []) := by
  unfold m_Loop___init__ b_Loop___init__ runI
  simp [h, hs, ht]
def optT (b : D) : Option Tst → D
  | some t => tstD t
  | none => b
/-- some tests, and one that is none -/
theorem tests_bad {n : Nat} {ts : List Tst} {b : D} (h3 : n ≤ 3) (h1 : 1 ≤ ts.length) (h4 : ts.length ≤ 4) (h : ∀ t ∈ ts, TstOk n t) (hb : m_is_test [b, .int ((n : Int) + 1)] = .ok (.bl false)) : m_are_tests [.tup (ts.map tstD ++ [b]), .int ((n : Int) + 1)] = .ok (.bl false) := by
  have w : c_MAX_TESTS = 4 := rfl
  by_cases h5 : ts.length = 4
  · have a : ¬ ((ts.length : Int) + 1 ≤ 4) := by omega
    unfold m_are_tests b_are_tests runF
    simp [w, h5]
  · have hq : q1_are_tests [.val (.tup (ts.map tstD ++ [b])), .val (.int ((n : Int) + 1)), .un] = .ok (ts.map (fun _ => .bl true) ++ [.bl false]) [.val (.tup (ts.map tstD ++ [b])), .val (.int ((n : Int) + 1)), .un] := by
      have e : ts.map tstD ++ [b] = (ts.map some ++ [none]).map (optT b) := by
        rw [List.map_append, List.map_map]; rfl
      have key := lcM_map (vs := [2]) (t := .sl 2) (el := e1_are_tests) (ρ := [.val (.tup (ts.map tstD ++ [b])), .val (.int ((n : Int) + 1)), .un]) (optT b) (ts.map some ++ [none]) (fun o => .bl o.isSome) rfl (by rw [sizeLine_eq]; simp; omega) fun o ho => by
        cases o with
        | none => simp [turnM, e1_are_tests, optT, hb]
        | some t =>
          have ht : t ∈ ts := by simpa using ho
          simp [turnM, e1_are_tests, optT, e_is_test (h t ht) h3]
      rw [← e] at key
      unfold q1_are_tests
      simp [key]
    have ha : allD [.lst (ts.map (fun _ => .bl true) ++ [.bl false])] = .ok (.bl false) := by
      have := op_all (bs := ts.map (fun _ => true) ++ [false])
      rw [List.map_append, List.map_map] at this
      refine this.trans ?_
      simp
    have a1 : (1 : Int) ≤ (ts.length : Int) + 1 := by omega
    have a2 : (ts.length : Int) + 1 ≤ 4 := by omega
    unfold m_are_tests b_are_tests runF
    simp [w, a1, a2, hq, ha]
end
end Pm
namespace Pm
open PySem PySem.Spec PyProof.Rows L2 Mr
def T200 : Int := 10 ^ 200
def n3 {α : Type} (r : List α) : Prop := 1 ≤ r.length ∧ r.length ≤ 3
end Pm
namespace Pm
open PySem PySem.Spec PyProof.Rows L2 Mr
end Pm
namespace Pm
open PySem PySem.Spec PyProof.Rows L2 Mr
theorem met13_word : m__law_met_error_k13 (.exc (exE (Str.ofString "InvalidName"))) = .ok (.str (Str.ofString "word")) := by
  unfold m__law_met_error_k13 g__law_met_error_k13 runT
  kernel_rfl
theorem met13_loop : m__law_met_error_k13 (.exc (exE (Str.ofString "InvalidLoop"))) = .ok (.str (Str.ofString "loop")) := by
  unfold m__law_met_error_k13 g__law_met_error_k13 runT
  kernel_rfl
theorem met13_operation : m__law_met_error_k13 (.exc (exE (Str.ofString "InvalidOperation"))) = .ok (.str (Str.ofString "operation")) := by
  unfold m__law_met_error_k13 g__law_met_error_k13 runT
  kernel_rfl
theorem met13_number {d : D} {s t : Str} (h : Mr.reprX [d] = .ok (.str s)) (h2 : addD (.str (Str.ofString "number ")) (.str s) = .ok (.str t)) : m__law_met_error_k13 (.exc (exV (Str.ofString "InvalidNumber") (Str.ofString "value") d)) = .ok (.str t) := by
  have e : m__law_met_error_k13 (.exc (exV (Str.ofString "InvalidNumber") (Str.ofString "value") d)) = (match ((offR 1 ((m2 addD (mC (.str (Str.ofString "number "))) (mL Mr.reprX (mCons (mErrF 1 (exV (Str.ofString "InvalidNumber") (Str.ofString "value") d) (Str.ofString "value")) mNil)) [.pin, .pin]).bind fun d ρ => .ok (.rt d) ρ)) : R Fl) with
    | .ok .nx _ => FR.ok D.non
    | .ok (.rt d) _ => .ok d
    | _ => .stuck) := by
    unfold m__law_met_error_k13 g__law_met_error_k13 runT
    kernel_rfl
  rw [e]
  have e2 : mErrF 1 (exV (Str.ofString "InvalidNumber") (Str.ofString "value") d) (Str.ofString "value") [.pin, .pin] = .ok d [.pin, .pin] := by kernel_rfl
  simp [e2, h, h2, offR]
section
variable {l : Lp} {d e g r : D} {w : Str}
theorem methOf_lp {m : List D → FR D} {f : Str} (hf : f ∉ lpNs) : methOf [(Str.ofString "Loop", m)] f (lpD l) = some m := by
  unfold lpD methOf
  simp only
  rw [if_neg hf]
  rfl
theorem ap_methL {m : List D → FR D} {f : Str} {k : Nat} {fe : M D} {fs : M (List D)} {ρ : Ro} {ds : List D} (h : fe ρ = .ok (lpD l) ρ) (ha : fs ρ = .ok ds ρ) (hl : ds.length + 1 = k) (hf : f ∉ lpNs := by decide +kernel) :
    mMeth [(Str.ofString "Loop", m)] f k fe fs ρ = (m (lpD l :: ds)).lift ρ := by
  unfold mMeth
  rw [h, R.bind_ok, methOf_lp hf]
  show ((fs ρ).bind fun ds ρ => _) = _
  rw [ha, R.bind_ok, if_pos hl]
end
end Pm
namespace Pm
open PySem PySem.Spec PyProof.Rows L2 Mr
section
variable {l : Lp} {d e g r : D} {w : Str}
theorem names_ok (h : LpOk l) : m_is_names [strsT l.names] = .ok (.bl true) := e_is_names h.n0 h.n3 h.nd h.nm
theorem steps_ok (h : LpOk l) : m_are_steps [rowsD l.steps, .int ((l.names.length : Int) + 1)] = .ok (.bl true) := e_are_steps h.n3 h.sl h.st
def numB (n : Nat) : D → Bool
  | .int i => isI i && (decide (0 ≤ i) && decide (i < n))
  | _ => false
theorem wo_bad (h : plD d = true) (hb : numB l.tests.length d = false) : m_Loop_without_test [lpD l, d] = .exc (exV (Str.ofString "InvalidNumber") (Str.ofString "value") d) := by
  have q := g_is_integer h
  unfold m_Loop_without_test b_Loop_without_test runF
  cases d with
  | int i =>
    simp only [intB] at q
    simp only [numB] at hb
    cases hi : isI i with
    | false => rw [hi] at q; simp [q]
    | true =>
      rw [hi] at q hb
      by_cases z : 0 ≤ i
      · by_cases z2 : i < l.tests.length
        · simp [z, z2] at hb
        · simp [q, z, z2]
      · simp [q, z]
  | _ => simp only [intB] at q; simp [q]
theorem rn_bad (h : m_is_names [d] = .ok (.bl false)) : m_Loop_renamed [lpD l, d] = .exc (exE (Str.ofString "InvalidName")) := by
  simp [m_Loop_renamed, b_Loop_renamed, runF, h]
theorem rn_short {xs : List Str} (h : m_is_names [strsT xs] = .ok (.bl true)) (hl : xs.length ≠ l.names.length) : m_Loop_renamed [lpD l, strsT xs] = .exc (exE (Str.ofString "InvalidOperation")) := by
  have : ¬ ((xs.length : Int) = l.names.length) := by omega
  simp [m_Loop_renamed, b_Loop_renamed, runF, h, this]
/-- names anew -/
theorem rn_ok {xs : List Str} (h : LpOk l) (hx : LpOk ⟨xs, l.steps, l.tests⟩) (hl : xs.length = l.names.length) : m_Loop_renamed [lpD l, strsT xs] = .ok (lpD ⟨xs, l.steps, l.tests⟩) := by
  have e1 := e_is_names hx.n0 hx.n3 hx.nd hx.nm
  have e2 := e_loop hx
  simp [m_Loop_renamed, b_Loop_renamed, runF, e1, hl, e2]
  rfl
end
theorem names_bad {w : Str} (hw : NameOk w) : ∀ d ∈ [D.non, .int 0, .str (Str.ofString "x"), .lst [], .tup [], .tup [.str (Str.ofString "A")], .tup [.str w, .str w], .tup [.str (Str.ofString "x"), .str (Str.ofString "y"), .str (Str.ofString "z"), .str (Str.ofString "a")], .dct [] [], .tup [.str w, .int 0]], m_is_names [d] = .ok (.bl false) := fun d hd => by
  have ew : m_is_name [.str w] = .ok (.bl true) := hw.1
  have e0 : m_is_name [.int 0] = .ok (.bl false) := by kernel_rfl
  simp only [List.mem_cons, List.not_mem_nil, or_false] at hd
  rcases hd with rfl | rfl | rfl | rfl | rfl | rfl | rfl | rfl | rfl | rfl
  · kernel_rfl
  · kernel_rfl
  · kernel_rfl
  · kernel_rfl
  · kernel_rfl
  · kernel_rfl
  · have q := lcM_same (vs := [1]) (t := .sl 1) (el := e1_is_names) (ρ := [.val (.tup [.str w, .str w]), .un]) [.str w, .str w] (fun _ => .bl true) rfl (by simp) fun x hm => by
      simp only [List.mem_cons, List.not_mem_nil, or_false, or_self] at hm
      subst hm
      simp [turnM, e1_is_names, ew]
    have a1 : allD [.lst ([D.str w, .str w].map fun _ => .bl true)] = .ok (.bl true) := by kernel_rfl
    have a2 : lenSetD (.tup [.str w, .str w]) = .ok (.int 1) := by
      have h1 : hasS [] w = false := rfl
      have h2 : hasS [w] w = true := by simp [hasS]
      have u : uniqS [w, w] = [w] := by simp [uniqS, h1, h2]
      show (match strsD [D.str w, .str w] with | some ss => if ss.length < 1000 then FR.ok (D.int (uniqS ss).length) else .stuck | none => .stuck) = _
      rw [show [D.str w, .str w] = [w, w].map .str from rfl, strsD_map]
      simp [u]
    have a3 : eqD (.int 1) (.int 2) = .ok (.bl false) := by kernel_rfl
    unfold m_is_names b_is_names q1_is_names runF
    simp only [List.map_cons, List.map_nil] at q a1
    simp [c_MOST_NAMES, q, a1, a2, a3]
  · kernel_rfl
  · kernel_rfl
  · have q := lcM_same (vs := [1]) (t := .sl 1) (el := e1_is_names) (ρ := [.val (.tup [.str w, .int 0]), .un]) [.str w, .int 0] (fun d => match d with | .int _ => .bl false | _ => .bl true) rfl (by simp) fun x hm => by
      simp only [List.mem_cons, List.not_mem_nil, or_false] at hm
      rcases hm with rfl | rfl
      · simp [turnM, e1_is_names, ew]
      · simp [turnM, e1_is_names, e0]
    have a1 : allD [.lst [.bl true, .bl false]] = .ok (.bl false) := by kernel_rfl
    unfold m_is_names b_is_names q1_is_names runF
    simp only [List.map_cons, List.map_nil] at q
    simp [c_MOST_NAMES, q, a1]
def atL (t : Nat) : List D := [.non, .int (-1), .int t, .str (Str.ofString "0"), .bl true, .tup [.int 0], .int T200, .dct [] []]
theorem at_ok {t : Nat} (h4 : t ≤ 100) : ∀ d ∈ atL t, plD d = true ∧ numB t d = false ∧ okX 12 d = true ∧ ShX 2000 d := fun d hd => by
  have b : ¬ T200 < (t : Int) := by
    have : (100 : Int) ≤ T200 := by decide +kernel
    omega
  have sz : Sz 1900 T200 := by unfold Sz; decide +kernel
  have szt : Sz 1900 (t : Int) := Sz.mono (a := 10) (Sz.of (by omega) (by omega)) (by decide)
  simp only [atL, List.mem_cons, List.not_mem_nil, or_false] at hd
  rcases hd with rfl | rfl | rfl | rfl | rfl | rfl | rfl | rfl
  · exact ⟨rfl, rfl, by simp [okX], by decide +kernel, by decide +kernel⟩
  · exact ⟨rfl, by simp [numB], by simp [okX], by decide +kernel, by decide +kernel⟩
  · exact ⟨rfl, by simp [numB], by simp [okX], Nat.le_trans (ShX.of (n := 12) (sh_int szt) (by simp) rfl).1 (by decide), (ShX.of (n := 12) (sh_int szt) (by simp) rfl).2⟩
  · exact ⟨rfl, rfl, by simp [okX], by decide +kernel, by decide +kernel⟩
  · exact ⟨rfl, rfl, by simp [okX], by decide +kernel, by decide +kernel⟩
  · exact ⟨rfl, rfl, by simp [okX, okXs], by decide +kernel, by decide +kernel⟩
  · exact ⟨rfl, by simp [numB, b], by simp [okX], Nat.le_trans (ShX.of (n := 12) (sh_int sz) (by simp) rfl).1 (by decide), (ShX.of (n := 12) (sh_int sz) (by simp) rfl).2⟩
  · exact ⟨rfl, rfl, by simp [okX, okXs], by decide +kernel, by decide +kernel⟩
end Pm
namespace Pm
open PySem PySem.Spec PyProof.Rows L2 Mr
theorem addT {xs ys : List D} (h : xs.length + ys.length ≤ 1000) : addD (.tup xs) (.tup ys) = .ok (.tup (xs ++ ys)) := if_pos (by rw [sizeLine_eq]; omega)
theorem addL {xs ys : List D} (h : xs.length + ys.length ≤ 1000) : addD (.lst xs) (.lst ys) = .ok (.lst (xs ++ ys)) := if_pos (by rw [sizeLine_eq]; omega)
section
variable {l : Lp}
end
end Pm
namespace Pm
open PySem PySem.Spec PyProof.Rows L2 Mr
theorem nm_u : NameOk (Str.ofString "u") := ⟨by kernel_rfl, by decide +kernel⟩
theorem nm_v : NameOk (Str.ofString "v") := ⟨by kernel_rfl, by decide +kernel⟩
theorem nm_w : NameOk (Str.ofString "w") := ⟨by kernel_rfl, by decide +kernel⟩
section
variable {l : Lp}
theorem LpOk.rename {xs : List Str} (h : LpOk l) (hl : xs.length = l.names.length) (nd : xs.Nodup) (nm : ∀ x ∈ xs, NameOk x) : LpOk ⟨xs, l.steps, l.tests⟩ := by
  have e : (⟨xs, l.steps, l.tests⟩ : Lp).n = l.n := hl
  refine ⟨fun z => h.n0 (List.length_eq_zero_iff.mp (by rw [← hl]; exact congrArg List.length z)), by rw [e]; exact h.n3, nd, nm, by rw [e]; exact h.sl, ?_, h.t0, h.t4, ?_⟩
  · rw [e]; exact h.st
  · rw [e]; exact h.ts
theorem e_other {xs : List Str} : m__law_other [dictD l, .str (Str.ofString "words"), strsT xs] = .ok (dictD ⟨xs, l.steps, l.tests⟩) := by kernel_rfl
/-- the one test of a loop taken away -/
theorem wo_last {t : Tst} (h : LpOk l) (ht : l.tests = [t]) : m_Loop_without_test [lpD l, .int 0] = .exc (exE (Str.ofString "InvalidLoop")) := by
  have m := mk_tests (ts := .tup []) (names_ok h) (steps_ok h) (by kernel_rfl)
  have i0 : m_is_integer [.int 0] = .ok (.bl true) := by kernel_rfl
  have q : q1_Loop_without_test [.val (lpD l), .val (.int 0), .un, .un, .un] = .ok [] [.val (lpD l), .val (.int 0), .un, .un, .un] := by
    have e := enum_tests (l := l)
    rw [ht] at e
    simp only [List.length_cons, List.length_nil, List.range_one, List.zip_cons_cons, List.zip_nil_left, List.map_cons, List.map_nil] at e
    have ft : fldD ["Loop"] "own_tests" (lpD l) = .ok (tstsD [t]) := by rw [fld_tests, ht]
    have z : neD (.int ((0 : Nat) : Int)) (.int 0) = .ok (.bl false) := by kernel_rfl
    have key := lcM_opt (vs := [3, 4]) (t := .tp [.sl 3, .sl 4]) (c := tOf (m2 neD (mVar 3) (mVar 1))) (el := e1_Loop_without_test) (ρ := [.val (lpD l), .val (.int 0), .un, .un, .un]) (fun p : Nat × Tst => D.tup [.int p.1, tstD p.2]) [(0, t)] (fun _ => none) rfl (by rw [sizeLine_eq]; simp) fun p hp => by
      rw [List.mem_singleton.mp hp]
      simp [turnO, z]
    simp only [List.map_cons, List.map_nil] at key
    simp at key
    unfold q1_Loop_without_test
    simp [ft, e, key]
  have tp : tupleD [.lst []] = .ok (.tup []) := rfl
  have l1 : (l.tests.length : Int) = 1 := by rw [ht]; rfl
  simp [m_Loop_without_test, b_Loop_without_test, runF, i0, l1, q, tp, m]
/-- the law's own names, and others that are too few -/
structure Uvw (l : Lp) (xs ys : List Str) : Prop where
  sl : sliceD (.lst [.str (Str.ofString "u"), .str (Str.ofString "v"), .str (Str.ofString "w")]) none (some (l.names.length : Nat)) = .ok (.lst (xs.map .str))
  hl : xs.length = l.names.length
  nd : xs.Nodup
  nm : ∀ x ∈ xs, NameOk x
  sh : (if (xs.length : Int) > 1 then sliceD (strsT xs) (some 1) none else .ok (.tup [.str (Str.ofString "u"), .str (Str.ofString "v")])) = .ok (strsT ys)
  nb : m_is_names [strsT ys] = .ok (.bl true)
  ne : ys.length ≠ l.names.length
end
end Pm
namespace Pm
open PySem PySem.Spec PyProof.Rows L2 Mr
theorem other_moves {a b c v : D} : m__law_other [.dct [.inr (Str.ofString "words"), .inr (Str.ofString "moves"), .inr (Str.ofString "checks")] [a, b, c], .str (Str.ofString "moves"), v] = .ok (.dct [.inr (Str.ofString "words"), .inr (Str.ofString "moves"), .inr (Str.ofString "checks")] [a, v, c]) := by kernel_rfl
theorem other_checks {a b c v : D} : m__law_other [.dct [.inr (Str.ofString "words"), .inr (Str.ofString "moves"), .inr (Str.ofString "checks")] [a, b, c], .str (Str.ofString "checks"), v] = .ok (.dct [.inr (Str.ofString "words"), .inr (Str.ofString "moves"), .inr (Str.ofString "checks")] [a, b, v]) := by kernel_rfl
/-- one item put in the place of another -/
theorem put_at {xs : List D} {k : Nat} {x : D} (h : k < xs.length) (hl : xs.length ≤ 1000) : ∃ a b, sliceD (.tup xs) none (some (k : Int)) = .ok (.tup (xs.take k)) ∧ sliceD (.tup xs) (some ((k : Int) + 1)) none = .ok (.tup (xs.drop (k + 1))) ∧
    addD (.tup (xs.take k)) (.tup [x]) = .ok a ∧ addD a (.tup (xs.drop (k + 1))) = .ok b ∧ b = .tup (xs.set k x) := by
  refine ⟨.tup (xs.take k ++ [x]), .tup (xs.take k ++ [x] ++ xs.drop (k + 1)), ?_, ?_, ?_, ?_, ?_⟩
  · show FR.ok (D.tup (Mr.cutD xs none (some (k : Int)))) = _
    rw [cut_take]
  · show FR.ok (D.tup (Mr.cutD xs (some ((k : Int) + 1)) none)) = _
    rw [show ((k : Int) + 1) = ((k + 1 : Nat) : Int) by omega, cut_drop]
  · simp only [addD]
    rw [if_pos (by rw [sizeLine_eq]; simp; omega)]
  · simp only [addD]
    rw [if_pos (by rw [sizeLine_eq]; simp; omega)]
  · rw [List.set_eq_take_append_cons_drop, if_pos h]
    simp
theorem set_map {α β : Type} {f : α → β} {l : List α} {k : Nat} {x : α} : (l.map f).set k (f x) = (l.set k x).map f := (List.map_set ..).symm
end Pm
namespace Pm
open PySem PySem.Spec PyProof.Rows L2 Mr
section
variable {l l2 : Lp}
/-- are two loops the same? -/
def sameB (l l2 : Lp) : Bool := eqv (strsT l.names) (strsT l2.names) && (eqv (rowsD l.steps) (rowsD l2.steps) && eqv (tstsD l.tests) (tstsD l2.tests))
theorem same_self : sameB l l = true := by
  unfold sameB
  rw [eqv_self (n := 12) okD_strs, eqv_self (n := 12) okD_rows, eqv_self (n := 12) okD_tsts]; rfl
theorem e_eqLL : m_Loop___eq__ [lpD l, lpD l2] = .ok (.bl (sameB l l2)) := by
  have k1 : ∀ l : Lp, okD 12 (strsT l.names) = true := fun _ => okD_strs
  have k2 : ∀ l : Lp, okD 12 (rowsD l.steps) = true := fun _ => okD_rows
  have k3 : ∀ l : Lp, okD 12 (tstsD l.tests) = true := fun _ => okD_tsts
  have n1 : neD (strsT l.names) (strsT l2.names) = .ok (.bl (!eqv (strsT l.names) (strsT l2.names))) := if_pos ⟨k1 _, k1 _⟩
  have n2 : eqD (rowsD l.steps) (rowsD l2.steps) = .ok (.bl (eqv (rowsD l.steps) (rowsD l2.steps))) := if_pos ⟨k2 _, k2 _⟩
  have n3 : eqD (tstsD l.tests) (tstsD l2.tests) = .ok (.bl (eqv (tstsD l.tests) (tstsD l2.tests))) := if_pos ⟨k3 _, k3 _⟩
  unfold m_Loop___eq__ b_Loop___eq__ runF sameB
  cases e1 : eqv (strsT l.names) (strsT l2.names) with
  | false => rw [e1] at n1; simp [n1]
  | true =>
    rw [e1] at n1
    cases e2 : eqv (rowsD l.steps) (rowsD l2.steps) with
    | false => rw [e2] at n2; simp [n1, n2]
    | true => rw [e2] at n2; simp [n1, n2, n3]
theorem neW_lp {d : D} (h : rtO "Loop" d = true) : neW "Loop" m_Loop___eq__ (lpD l) d = nboolR (m_Loop___eq__ [lpD l, d]) := by
  unfold neW lpD
  exact if_pos ⟨rfl, h⟩
end
end Pm
namespace Pm
open PySem PySem.Spec PyProof.Rows L2 Mr
section
variable {l : Lp}
theorem form_row {r : List Int} (hs : ∀ x ∈ r, Sz 600 x) (hl : r.length = l.n + 1) (n3 : l.n ≤ 3) : m_require_form [lpD l, rowD r] = .ok .non := by
  have q := e_is_form (w := (l.n : Int) + 1) hs (by omega)
  rw [show ((r.length : Nat) : Int) = (l.n : Int) + 1 by omega, decide_eq_true rfl] at q
  simp [m_require_form, b_require_form, runF, q]
theorem sign_okB {b : Bool} : m_require_sign [.str (sgS b)] = .ok .non := by
  cases b <;> exact sign_ok rfl (by decide +kernel)
def withT (l : Lp) (t : Tst) : Lp := ⟨l.names, l.steps, l.tests ++ [t]⟩
theorem withT_ok {t : Tst} (h : LpOk l) (ht : TstOk l.n t) (h4 : l.tests.length < 4) : LpOk (withT l t) :=
  ⟨h.n0, h.n3, h.nd, h.nm, h.sl, h.st, by simp [withT], by simp [withT]; omega, fun z hz => by
    rcases List.mem_append.mp hz with hz | hz
    · exact h.ts z hz
    · rw [List.mem_singleton.mp hz]; exact ht⟩
theorem wt_ok {t : Tst} (h : LpOk l) (hs : ∀ x ∈ t.f, Sz 600 x) (hl : t.f.length = l.n + 1) (h4 : l.tests.length < 4) (ok : LpOk (withT l t)) :
    m_Loop_with_test [lpD l, .str (sgS t.more), rowD t.f] = .ok (lpD (withT l t)) := by
  have f := form_row (l := l) hs hl h.n3
  have e2 := e_loop ok
  have e2 : m_Loop___init__ (.ins true "Loop" [] []) [strsT l.names, rowsD l.steps, .tup (l.tests.map tstD ++ [.tup [.str (sgS t.more), rowD t.f]])] = .ok .non (.ins true "Loop" lpNs [strsT (withT l t).names, rowsD (withT l t).steps, .dct ((withT l t).names.map .inr) ((withT l t).steps.map rowD), tstsD (withT l t).tests, .int (((withT l t).n : Int) + 1), rowsD (withT l t).mat]) := by
    have z : tstsD (withT l t).tests = .tup (l.tests.map tstD ++ [.tup [.str (sgS t.more), rowD t.f]]) := by
      unfold tstsD withT
      rw [List.map_append]; rfl
    rw [← z]; exact e2
  have it : itemsD (tstsD l.tests) = .ok (l.tests.map tstD) := rfl
  simp [m_Loop_with_test, b_Loop_with_test, runF, sign_okB, f, mStar, it, tupD_of, sizeLine_eq, e2, mMake, show l.tests.length + 1 ≤ 16777216 by omega]
  rfl
theorem are_many {ds : List D} {k : Int} (h : 4 < ds.length) (h2 : ds.length < 1000) : m_are_tests [.tup ds, .int k] = .ok (.bl false) := by
  have a : ¬ ((ds.length : Int) ≤ 4) := by omega
  unfold m_are_tests b_are_tests runF
  simp [show c_MAX_TESTS = 4 from rfl, a]
/-- a row with a number that is too great -/
theorem small_no {r : List Int} {M : Int} (hs : ∀ x ∈ r, Sz 600 x) (hl : r.length ≤ 1000) (hb : (r.all fun x => decide (-M ≤ x ∧ x ≤ M)) = false) : m_is_small_form [rowD r, .int (r.length : Nat), .int M] = .ok (.bl false) := by
  have hq : q1_is_small_form [.val (rowD r), .val (.int (r.length : Nat)), .val (.int M), .un] = .ok (r.map fun x => .bl (decide (-M ≤ x ∧ x ≤ M))) [.val (rowD r), .val (.int (r.length : Nat)), .val (.int M), .un] := by
    have key := lcM_map (vs := [3]) (t := .sl 3) (el := e1_is_small_form) (ρ := [.val (rowD r), .val (.int (r.length : Nat)), .val (.int M), .un]) D.int r (fun x => .bl (decide (-M ≤ x ∧ x ≤ M))) rfl (by rw [sizeLine_eq]; omega) fun x hx => by
      by_cases c1 : -M ≤ x
      · by_cases c2 : x ≤ M <;> simp [turnM, e1_is_small_form, c1, c2]
      · simp [turnM, e1_is_small_form, c1]
    unfold q1_is_small_form
    simp [key]
  have e1 := e_is_form (w := (r.length : Int)) hs hl
  rw [decide_eq_true rfl] at e1
  have ha : allD [.lst (r.map fun x => .bl (decide (-M ≤ x ∧ x ≤ M)))] = .ok (.bl false) := by
    have := op_all (bs := r.map fun x => decide (-M ≤ x ∧ x ≤ M))
    rw [List.map_map] at this
    refine this.trans ?_
    rw [List.all_map]
    show FR.ok (D.bl (r.all fun x => decide (-M ≤ x ∧ x ≤ M))) = _
    rw [hb]
  unfold m_is_small_form b_is_small_form runF
  simp [e1, hq, ha]
  obtain ⟨x, hx, hn⟩ := List.all_eq_false.mp hb
  exact ⟨x, hx, fun c => by simp at hn; exact hn c⟩
theorem wt_bad {t : Tst} (h : LpOk l) (hs : ∀ x ∈ t.f, Sz 600 x) (hl : t.f.length = l.n + 1) (hb : l.tests.length = 4 ∨ (t.f.all fun x => decide (-99 ≤ x ∧ x ≤ 99)) = false) :
    m_Loop_with_test [lpD l, .str (sgS t.more), rowD t.f] = .exc (exE (Str.ofString "InvalidLoop")) := by
  have f := form_row (l := l) hs hl h.n3
  have t1 := List.length_pos_iff.mpr h.t0
  have t4 := h.t4
  have n3 := h.n3
  have bad : m_are_tests [.tup (l.tests.map tstD ++ [.tup [.str (sgS t.more), rowD t.f]]), .int ((l.names.length : Int) + 1)] = .ok (.bl false) := by
    rcases hb with hb | hb
    · exact are_many (by simp [hb]) (by simp [hb])
    · refine tests_bad h.n3 t1 h.t4 h.ts ?_
      have e2 : m_is_sign [.str (sgS t.more)] = .ok (.bl true) := by
        cases t.more <;> kernel_rfl
      have e1 := small_no (M := c_MAX_TEST_NUMBER) hs (by omega) hb
      rw [show ((t.f.length : Nat) : Int) = (l.n : Int) + 1 by omega] at e1
      have e1 : m_is_small_form [rowD t.f, .int ((l.names.length : Int) + 1), .int c_MAX_TEST_NUMBER] = .ok (.bl false) := e1
      unfold m_is_test b_is_test runF
      simp [e1, e2]
  have m := mk_tests (names_ok h) (steps_ok h) bad
  have it : itemsD (tstsD l.tests) = .ok (l.tests.map tstD) := rfl
  simp [m_Loop_with_test, b_Loop_with_test, runF, sign_okB, f, mStar, it, tupD_of, sizeLine_eq, m, show l.tests.length + 1 ≤ 16777216 by omega]
def lessT (l : Lp) (i : Nat) : Lp := ⟨l.names, l.steps, l.tests.eraseIdx i⟩
theorem lessT_ok {i : Nat} (h : LpOk l) (hi : i < l.tests.length) (h2 : 2 ≤ l.tests.length) : LpOk (lessT l i) := by
  have le : (l.tests.eraseIdx i).length = l.tests.length - 1 := List.length_eraseIdx_of_lt hi
  have t4 := h.t4
  refine ⟨h.n0, h.n3, h.nd, h.nm, h.sl, h.st, fun z => ?_, by show (l.tests.eraseIdx i).length ≤ 4; omega, fun z hz => h.ts z (List.mem_of_mem_eraseIdx hz)⟩
  have z : l.tests.eraseIdx i = [] := z
  rw [z] at le; simp at le; omega
theorem erase_filter {α β : Type} (g : α → β) : ∀ (ts : List α) (i s : Nat), ((List.range' s ts.length).zip ts).filterMap (fun p => if p.1 = s + i then none else some (g p.2)) = (ts.eraseIdx i).map g
  | [], i, s => by simp
  | t :: ts, 0, s => by
    have e : ∀ (k : Nat) (us : List α), s < k → ((List.range' k us.length).zip us).filterMap (fun p => if p.1 = s + 0 then none else some (g p.2)) = us.map g := fun k us => by
      induction us generalizing k with
      | nil => intro _; rfl
      | cons u us ih =>
        intro hk
        rw [List.length_cons, List.range'_succ, List.zip_cons_cons, List.filterMap_cons]
        simp only
        rw [if_neg (by omega)]
        simp only
        rw [ih (k + 1) (by omega)]; rfl
    rw [List.length_cons, List.range'_succ, List.zip_cons_cons, List.filterMap_cons]
    simp only
    rw [if_pos (by omega)]
    simp only
    rw [e (s + 1) ts (by omega)]; rfl
  | t :: ts, i + 1, s => by
    have ih := erase_filter g ts i (s + 1)
    rw [List.length_cons, List.range'_succ, List.zip_cons_cons, List.filterMap_cons]
    simp only
    rw [if_neg (by omega)]
    simp only
    rw [List.eraseIdx_cons_succ, List.map_cons, ← ih]
    congr 2
    funext p
    have : (p.1 = s + (i + 1)) = (p.1 = s + 1 + i) := by rw [show s + (i + 1) = s + 1 + i by omega]
    simp only [this]
theorem q_less {i : Nat} (h : LpOk l) : q1_Loop_without_test [.val (lpD l), .val (.int (i : Nat)), .un, .un, .un] = .ok ((l.tests.eraseIdx i).map tstD) [.val (lpD l), .val (.int (i : Nat)), .un, .un, .un] := by
  have t4 := h.t4
  have e := enum_tests (l := l)
  have key := lcM_opt (vs := [3, 4]) (t := .tp [.sl 3, .sl 4]) (c := tOf (m2 neD (mVar 3) (mVar 1))) (el := e1_Loop_without_test) (ρ := [.val (lpD l), .val (.int (i : Nat)), .un, .un, .un]) (fun p : Nat × Tst => D.tup [.int p.1, tstD p.2]) ((List.range l.tests.length).zip l.tests) (fun p => if p.1 = i then none else some (tstD p.2)) rfl (by rw [sizeLine_eq, List.length_zip, List.length_range]; omega) fun p hp => by
    by_cases c : p.1 = i
    · simp [turnO, c]
    · have c2 : ¬ ((p.1 : Int) = (i : Int)) := by omega
      simp [turnO, e1_Loop_without_test, c, c2]
  have e2 := erase_filter tstD l.tests i 0
  simp only [Nat.zero_add] at e2
  rw [← List.range_eq_range'] at e2
  rw [e2] at key
  unfold q1_Loop_without_test
  simp [e, key]
theorem nI11 {i : Nat} (h : i < 1000) : m_is_integer [.int (i : Nat)] = .ok (.bl true) := e_is_integer ((sz_small (by omega) (by omega)).mono (by decide))
theorem wo_ok {i : Nat} (h : LpOk l) (hi : i < l.tests.length) (ok : LpOk (lessT l i)) : m_Loop_without_test [lpD l, .int (i : Nat)] = .ok (lpD (lessT l i)) := by
  have t4 := h.t4
  have q := q_less (i := i) h
  have e2 := e_loop ok
  have tp : tupleD [.lst ((l.tests.eraseIdx i).map tstD)] = .ok (tstsD (lessT l i).tests) := rfl
  have i0 := nI11 (i := i) (by omega)
  have c : ((i : Int) < (l.tests.length : Int)) := by omega
  have e2 : m_Loop___init__ (.ins true "Loop" [] []) [strsT l.names, rowsD l.steps, tstsD (lessT l i).tests] = .ok .non (.ins true "Loop" lpNs [strsT (lessT l i).names, rowsD (lessT l i).steps, .dct ((lessT l i).names.map .inr) ((lessT l i).steps.map rowD), tstsD (lessT l i).tests, .int (((lessT l i).n : Int) + 1), rowsD (lessT l i).mat]) := e2
  simp [m_Loop_without_test, b_Loop_without_test, runF, i0, hi, q, tp, e2, mMake]
  rfl
end
end Pm
namespace Pm
open PySem PySem.Spec PyProof.Rows L2 Mr
section
variable {l : Lp}
theorem step_val {n i : Nat} {r : List Int} {o : Int} (sm : small 20 r) (hl : r.length = n + 1) (hi : i < n) (hn : n ≤ 3) (ho : r[i + 1]? = some o) :
    m_is_step [rowD r, .int ((n : Int) + 1), .int ((i : Int) + 1)] = .ok (.bl (decide (-9 ≤ o ∧ o ≤ 9) && (r.drop (i + 2)).all fun x => decide (x = 0))) := by
  have e1 := e_is_small (w := (n : Int) + 1) (M := c_MAX_STEP) sm (by unfold c_MAX_STEP Sz; decide) (by omega)
  rw [show ((r.length : Nat) : Int) = (n : Int) + 1 by omega, decide_eq_true rfl] at e1
  have e2 : ixD (rowD r) (.int ((i : Int) + 1)) = .ok (.int o) := ixD_rowZ (k := i + 1) (by omega) ho
  have e3 : sliceD (rowD r) (some ((i : Int) + 1 + 1)) none = .ok (rowD (r.drop (i + 2))) := slice_dropZ (by omega)
  have hq : q1_is_step [.val (rowD r), .val (.int ((n : Int) + 1)), .val (.int ((i : Int) + 1)), .un] = .ok ((r.drop (i + 2)).map fun x => .bl (decide (x = 0))) [.val (rowD r), .val (.int ((n : Int) + 1)), .val (.int ((i : Int) + 1)), .un] := by
    have key := lcM_map (vs := [3]) (t := .sl 3) (el := e1_is_step) (ρ := [.val (rowD r), .val (.int ((n : Int) + 1)), .val (.int ((i : Int) + 1)), .un]) D.int (r.drop (i + 2)) (fun x => .bl (decide (x = 0))) rfl (by rw [sizeLine_eq, List.length_drop]; omega) fun x hx => by
      by_cases c : x = 0 <;> simp [turnM, e1_is_step, c]
    unfold q1_is_step
    have w : walkD (rowD (r.drop (i + 2))) = .ok ((r.drop (i + 2)).map D.int) := rfl
    obtain ⟨Y, hY⟩ : ∃ Y, Y = r.drop (i + 2) := ⟨_, rfl⟩
    rw [← hY] at key e3 w ⊢
    simp [-walk_rowD, e3, w, key]
  have ha : allD [.lst ((r.drop (i + 2)).map fun x => .bl (decide (x = 0)))] = .ok (.bl ((r.drop (i + 2)).all fun x => decide (x = 0))) := by
    have := op_all (bs := (r.drop (i + 2)).map fun x => decide (x = 0))
    rw [List.map_map] at this
    refine this.trans ?_
    rw [List.all_map]; rfl
  have m9 : c_MAX_MULTIPLIER = 9 := rfl
  obtain ⟨L, hL⟩ : ∃ L, L = (r.drop (i + 2)).map fun x => D.bl (decide (x = 0)) := ⟨_, rfl⟩
  obtain ⟨B, hB⟩ : ∃ B, B = (r.drop (i + 2)).all fun x => decide (x = 0) := ⟨_, rfl⟩
  rw [← hL] at hq ha
  rw [← hB] at ha ⊢
  unfold m_is_step b_is_step runF
  by_cases c1 : -9 ≤ o
  · by_cases c2 : o ≤ 9
    · simp [e1, e2, m9, c1, c2, hq, ha]
    · simp [e1, e2, m9, c1, c2]
  · simp [e1, e2, m9, c1]
theorem steps_val {n : Nat} {rs : List (List Int)} {P : Nat → Bool} (hn : n ≤ 3) (hl : rs.length = n) (h : ∀ (i : Nat) r, rs[i]? = some r → m_is_step [rowD r, .int ((n : Int) + 1), .int ((i : Int) + 1)] = .ok (.bl (P i))) : m_are_steps [rowsD rs, .int ((n : Int) + 1)] = .ok (.bl ((List.range n).all P)) := by
  have e : enumD [rowsD rs] = .ok (((List.range rs.length).zip rs).map fun p => .tup [.int p.1, rowD p.2]) := enum_steps (l := ⟨[], rs, []⟩)
  have hq : q1_are_steps [.val (rowsD rs), .val (.int ((n : Int) + 1)), .un, .un] = .ok (((List.range rs.length).zip rs).map fun p => .bl (P p.1)) [.val (rowsD rs), .val (.int ((n : Int) + 1)), .un, .un] := by
    have key := lcM_map (vs := [2, 3]) (t := .tp [.sl 2, .sl 3]) (el := e1_are_steps) (ρ := [.val (rowsD rs), .val (.int ((n : Int) + 1)), .un, .un]) (fun p : Nat × List Int => D.tup [.int p.1, rowD p.2]) ((List.range rs.length).zip rs) (fun p => .bl (P p.1)) rfl (by rw [sizeLine_eq, List.length_zip]; omega) fun p hp => by
      obtain ⟨i, hi, e⟩ := List.getElem_of_mem hp
      rw [List.getElem_zip, List.getElem_range] at e
      subst e
      have hi : i < rs.length := by rw [List.length_zip] at hi; omega
      simp [turnM, e1_are_steps, h i rs[i] (List.getElem?_eq_getElem hi)]
    unfold q1_are_steps
    simp [e, key]
  have ha : allD [.lst (((List.range rs.length).zip rs).map fun p => .bl (P p.1))] = .ok (.bl ((List.range n).all P)) := by
    have := op_all (bs := ((List.range rs.length).zip rs).map fun p => P p.1)
    rw [List.map_map] at this
    refine this.trans ?_
    rw [List.all_map]
    congr 2
    have : (List.range n) = ((List.range rs.length).zip rs).map Prod.fst := by rw [List.map_fst_zip (by simp), hl]
    rw [this, List.all_map]; rfl
  obtain ⟨L, hL⟩ : ∃ L, L = ((List.range rs.length).zip rs).map fun p => D.bl (P p.1) := ⟨_, rfl⟩
  obtain ⟨B, hB⟩ : ∃ B, B = (List.range n).all P := ⟨_, rfl⟩
  rw [← hL] at hq ha
  rw [← hB] at ha ⊢
  unfold m_are_steps b_are_steps runF
  simp [hl, hq, ha]
theorem q_withk {k : Nat} {s : Str} {X : List Int} (h : LpOk l) (hk : l.names[k]? = some s) :
    q1_Loop_with_step [.val (lpD l), .val (.str s), .val (rowD X), .un, .un, .un] = .ok ((l.steps.set k X).map rowD) [.val (lpD l), .val (.str s), .val (rowD X), .un, .un, .un] := by
  have sl : l.steps.length = l.names.length := h.sl
  have n3 : l.names.length ≤ 3 := h.n3
  have hz : zipMD [strsT l.names, rowsD l.steps] = .ok ((l.names.zip l.steps).map fun p => .tup [.str p.1, rowD p.2]) := by
    show FR.ok ((l.names.map D.str).zipWith (fun x y => D.tup [x, y]) (l.steps.map rowD)) = _
    rw [List.zipWith_map, List.zip, List.map_zipWith]
  have key := lcM_map (vs := [4, 5]) (t := .tp [.sl 4, .sl 5]) (el := e1_Loop_with_step) (ρ := [.val (lpD l), .val (.str s), .val (rowD X), .un, .un, .un]) (fun p : Str × List Int => D.tup [.str p.1, rowD p.2]) (l.names.zip l.steps) (fun p => if p.1 = s then rowD X else rowD p.2) rfl (by rw [sizeLine_eq, List.length_zip]; omega) fun p hp => by
    by_cases c : p.1 = s
    · simp [turnM, e1_Loop_with_step, eq_strs, c]
    · have c2 : (p.1 == s) = false := by simpa using c
      simp [turnM, e1_Loop_with_step, eq_strs, c, c2]
  have e2 : ((l.names.zip l.steps).map fun p => if p.1 = s then rowD X else rowD p.2) = (l.steps.set k X).map rowD := by
    obtain ⟨hk1, hk2⟩ := List.getElem?_eq_some_iff.mp hk
    refine List.ext_getElem (by simp [sl]) fun j h1 h2 => ?_
    rw [List.getElem_map, List.getElem_map, List.getElem_zip, List.getElem_set]
    have hj : j < l.names.length := by rw [List.length_map, List.length_zip] at h1; omega
    by_cases c : k = j
    · subst c
      simp only [hk2, if_pos]
    · have ne : ¬ l.names[j] = s := fun z => by
        have nd := List.pairwise_iff_getElem.mp h.nd
        rcases Nat.lt_or_gt_of_ne c with q | q
        · exact nd k j hk1 hj q (hk2.trans z.symm)
        · exact nd j k hj hk1 q (z.trans hk2.symm)
      simp only
      rw [if_neg ne, if_neg c]
  unfold q1_Loop_with_step
  simp [hz, key, e2]
def withS (l : Lp) (k : Nat) (X : List Int) : Lp := ⟨l.names, l.steps.set k X, l.tests⟩
theorem withS_ok {k : Nat} {X : List Int} (h : LpOk l) (hX : StepOk l.n k X) : LpOk (withS l k X) := by
  refine ⟨h.n0, h.n3, h.nd, h.nm, by show (l.steps.set k X).length = l.n; rw [List.length_set]; exact h.sl, fun i r hr0 => ?_, h.t0, h.t4, h.ts⟩
  have hr : (l.steps.set k X)[i]? = some r := hr0
  clear hr0
  rw [List.getElem?_set] at hr
  split at hr
  · rename_i e
    subst e
    split at hr
    · cases hr; exact hX
    · cases hr
  · exact h.st i r hr
theorem ws_ok {k : Nat} {s : Str} {X : List Int} (h : LpOk l) (hk : l.names[k]? = some s) (hs : ∀ x ∈ X, Sz 600 x) (hl : X.length = l.n + 1) (ok : LpOk (withS l k X)) :
    m_Loop_with_step [lpD l, .str s, rowD X] = .ok (lpD (withS l k X)) := by
  have q := q_withk (X := X) h hk
  have no := name_ok (l := l) (List.mem_of_getElem? hk)
  have f := form_row (l := l) hs hl h.n3
  have e2 := e_loop ok
  have e2 : m_Loop___init__ (.ins true "Loop" [] []) [strsT l.names, rowsD (withS l k X).steps, tstsD l.tests] = .ok .non (.ins true "Loop" lpNs [strsT (withS l k X).names, rowsD (withS l k X).steps, .dct ((withS l k X).names.map .inr) ((withS l k X).steps.map rowD), tstsD (withS l k X).tests, .int (((withS l k X).n : Int) + 1), rowsD (withS l k X).mat]) := e2
  have tp : tupleD [.lst ((l.steps.set k X).map rowD)] = .ok (rowsD (withS l k X).steps) := rfl
  simp [-List.map_set, m_Loop_with_step, b_Loop_with_step, runF, no, f, q, tp, e2, mMake]
  rfl
theorem ws_bad {k : Nat} {s : Str} {X : List Int} (h : LpOk l) (hk : l.names[k]? = some s) (hs : ∀ x ∈ X, Sz 600 x) (hl : X.length = l.n + 1) (hb : m_is_step [rowD X, .int ((l.n : Int) + 1), .int ((k : Int) + 1)] = .ok (.bl false)) :
    m_Loop_with_step [lpD l, .str s, rowD X] = .exc (exE (Str.ofString "InvalidLoop")) := by
  have q := q_withk (X := X) h hk
  have no := name_ok (l := l) (List.mem_of_getElem? hk)
  have f := form_row (l := l) hs hl h.n3
  have sl := h.sl
  have hk1 : k < l.n := (List.getElem?_eq_some_iff.mp hk).1
  have sb := steps_val (n := l.n) (rs := l.steps.set k X) (P := fun i => !decide (i = k)) h.n3 (by rw [List.length_set]; exact h.sl) fun i r hr => by
    rw [List.getElem?_set] at hr
    split at hr
    · rename_i e
      subst e
      split at hr
      · cases hr
        rw [hb]; simp
      · cases hr
    · rename_i e
      have hi : i < l.n := by have := (List.getElem?_eq_some_iff.mp hr).1; omega
      rw [e_is_step (h.st i r hr) hi h.n3]
      simp [Ne.symm e]
  have e0 : ((List.range l.n).all fun i => !decide (i = k)) = false := List.all_eq_false.mpr ⟨k, List.mem_range.mpr hk1, by simp⟩
  rw [e0] at sb
  have sb : m_are_steps [rowsD (l.steps.set k X), .int ((l.names.length : Int) + 1)] = .ok (.bl false) := sb
  have m := mk_steps (ts := tstsD l.tests) (names_ok h) sb
  have tp : tupleD [.lst ((l.steps.set k X).map rowD)] = .ok (rowsD (l.steps.set k X)) := rfl
  simp [-List.map_set, m_Loop_with_step, b_Loop_with_step, runF, no, f, q, tp, m]
theorem names_val {xs : List Str} (h0 : xs ≠ []) (hl : xs.length ≤ 3) (h : ∀ x ∈ xs, NameOk x) : m_is_names [strsT xs] = .ok (.bl (decide ((uniqS xs).length = xs.length))) := by
  have hq : q1_is_names [.val (strsT xs), .un] = .ok (List.replicate (xs.map D.str).length (.bl true)) [.val (strsT xs), .un] := by
    unfold q1_is_names
    simp
    rw [lcM_all (y := .bl true) _ rfl (by simp; omega) fun d hd => by
      obtain ⟨x, hx, rfl⟩ := List.mem_map.mp hd
      have e : m_is_name [.str x] = .ok (.bl true) := (h x hx).1
      simp [turnM, e1_is_names, e]]
    simp
  have l0 := List.length_pos_iff.mpr h0
  have a1 : (1 : Int) ≤ xs.length := by omega
  have a2 : (xs.length : Int) ≤ 3 := by omega
  have es : lenSetD (strsT xs) = .ok (.int (uniqS xs).length) := by
    show (match strsD (xs.map D.str) with | some ss => if ss.length < 1000 then FR.ok (D.int (uniqS ss).length) else .stuck | none => .stuck) = _
    rw [strsD_map]
    simp only
    rw [if_pos (by omega)]
  unfold m_is_names b_is_names runF
  simp [a1, a2, c_MOST_NAMES, hq, es]
  omega
theorem names_many {ds : List D} (h : 3 < ds.length) (h2 : ds.length < 1000) : m_is_names [.tup ds] = .ok (.bl false) := by
  have a : ¬ ((ds.length : Int) ≤ 3) := by omega
  unfold m_is_names b_is_names runF
  simp [show c_MOST_NAMES = 3 from rfl, a]
theorem names_A {xs : List Str} (hl : xs.length ≤ 2) (h : ∀ x ∈ xs, NameOk x) : m_is_names [strsT (xs ++ [Str.ofString "A"])] = .ok (.bl false) := by
  have eA : m_is_name [.str (Str.ofString "A")] = .ok (.bl false) := by kernel_rfl
  have key := lcM_map (vs := [1]) (t := .sl 1) (el := e1_is_names) (ρ := [.val (strsT (xs ++ [Str.ofString "A"])), .un]) D.str (xs ++ [Str.ofString "A"]) (fun x => .bl (!decide (x = Str.ofString "A"))) rfl (by rw [sizeLine_eq]; simp; omega) fun x hx => by
    by_cases c : x = Str.ofString "A"
    · subst c
      simp [turnM, e1_is_names, eA]
    · have hx : x ∈ xs := by
        rcases List.mem_append.mp hx with hx | hx
        · exact hx
        · exact (c (List.mem_singleton.mp hx)).elim
      have e : m_is_name [.str x] = .ok (.bl true) := (h x hx).1
      simp [turnM, e1_is_names, e, c]
  have hq : q1_is_names [.val (strsT (xs ++ [Str.ofString "A"])), .un] = .ok ((xs ++ [Str.ofString "A"]).map fun x => .bl (!decide (x = Str.ofString "A"))) [.val (strsT (xs ++ [Str.ofString "A"])), .un] := by
    unfold q1_is_names
    obtain ⟨Y, hY⟩ : ∃ Y, Y = xs ++ [Str.ofString "A"] := ⟨_, rfl⟩
    rw [← hY] at key ⊢
    simp [key]
  have ha : allD [.lst ((xs ++ [Str.ofString "A"]).map fun x => .bl (!decide (x = Str.ofString "A")))] = .ok (.bl false) := by
    have := op_all (bs := (xs ++ [Str.ofString "A"]).map fun x => !decide (x = Str.ofString "A"))
    rw [List.map_map] at this
    refine this.trans ?_
    rw [List.all_map, List.all_append]
    simp
  have lY : (xs ++ [Str.ofString "A"]).length = xs.length + 1 := by simp
  obtain ⟨Y, hY⟩ : ∃ Y, Y = xs ++ [Str.ofString "A"] := ⟨_, rfl⟩
  rw [← hY] at hq ha lY ⊢
  obtain ⟨L, hL⟩ : ∃ L, L = Y.map fun x => D.bl (!decide (x = Str.ofString "A")) := ⟨_, rfl⟩
  rw [← hL] at hq ha
  have a1 : (1 : Int) ≤ Y.length := by omega
  have a2 : (Y.length : Int) ≤ 3 := by omega
  unfold m_is_names b_is_names runF
  simp [a1, a2, c_MOST_NAMES, hq, ha]
/-- two tuples of names are equal just if they are the same -/
theorem eqv_strs : ∀ (xs ys : List Str), eqv (strsT xs) (strsT ys) = decide (xs = ys) := by
  intro xs ys
  show PyData.eqvAll (pys (xs.map D.str)) (pys (ys.map D.str)) = _
  induction xs generalizing ys with
  | nil => cases ys with
    | nil => rfl
    | cons y ys => rfl
  | cons x xs ih => cases ys with
    | nil => rfl
    | cons y ys =>
      have e : PyData.eqvAll (pys ((x :: xs).map D.str)) (pys ((y :: ys).map D.str)) = ((x == y) && PyData.eqvAll (pys (xs.map D.str)) (pys (ys.map D.str))) := rfl
      rw [e, ih ys, Bool.eq_iff_iff]
      simp
theorem eq_strsT {xs ys : List Str} : eqD (strsT xs) (strsT ys) = .ok (.bl (decide (xs = ys))) := by
  unfold eqD
  rw [if_pos ⟨okD_strs, okD_strs⟩, eqv_strs]
end
end Pm
namespace Pm
open PySem PySem.Spec PyProof.Rows L2 Mr
/-- what an edit tells: a word twice, or a loop and its record -/
def EditOk (r : D) : Prop := (∃ s : Str, r = .lst [.str s, .str s]) ∨ ∃ l' : Lp, LpOk l' ∧ r = .lst [dictD l', lpD l']
theorem met13_ok {d : D} : m__law_met_error_k13 (.ok d) = .ok d := by
  unfold m__law_met_error_k13 g__law_met_error_k13 runT
  kernel_rfl
theorem ne_self {l : Lp} : neW "Loop" m_Loop___eq__ (lpD l) (lpD l) = .ok (.bl false) := by rw [neW_lp rfl, e_eqLL, same_self]; rfl
theorem isiS_lp {l : Lp} : isiD [dictD l, .opq (.ty "str")] = .ok (.bl false) := id rfl
theorem isiS_str {s : Str} : isiD [.str s, .opq (.ty "str")] = .ok (.bl true) := id rfl
theorem isiL_str {s : Str} : isiOD (Str.ofString "Loop") (.str s) = .ok (.bl false) := id rfl
section
variable {l : Lp}
theorem less_with {t : Tst} : lessT (withT l t) l.tests.length = l := by
  have e : (l.tests ++ [t]).eraseIdx l.tests.length = l.tests := by
    rw [List.eraseIdx_eq_take_drop_succ]; simp
  show (⟨l.names, l.steps, (l.tests ++ [t]).eraseIdx l.tests.length⟩ : Lp) = l
  rw [e]
/-- the greatest amount of some numbers -/
theorem max_gt {a : Int} {r : List Int} : (decide (99 < maxI (if a < 0 then -a else a) (r.map fun x => if x < 0 then -x else x))) = !((a :: r).all fun x => decide (-99 ≤ x ∧ x ≤ 99)) := by
  have hm := maxI_mem (r.map fun x => if x < 0 then -x else x) (if a < 0 then -a else a)
  have hg := maxI_ge (r.map fun x => if x < 0 then -x else x) (if a < 0 then -a else a)
  generalize hM : maxI (if a < 0 then -a else a) (r.map fun x => if x < 0 then -x else x) = M at *
  have e : ((if a < 0 then -a else a) :: r.map fun x => if x < 0 then -x else x) = (a :: r).map fun x => if x < 0 then -x else x := rfl
  rw [e] at hm hg
  cases h : (a :: r).all fun x => decide (-99 ≤ x ∧ x ≤ 99) with
  | true =>
    obtain ⟨x, hx, ex⟩ := List.mem_map.mp hm
    have := of_decide_eq_true (List.all_eq_true.mp h x hx)
    have : ¬ (99 < M) := by
      rw [← ex]
      split <;> omega
    simp [this]
  | false =>
    obtain ⟨x, hx, hn⟩ := List.all_eq_false.mp h
    have g := hg _ (List.mem_map.mpr ⟨x, hx, rfl⟩)
    have hn : ¬ (-99 ≤ x ∧ x ≤ 99) := by simpa using hn
    have : 99 < M := by
      refine Int.lt_of_lt_of_le ?_ g
      split <;> omega
    simp [this]
theorem q_abs {r : List Int} {z0 z1 z2 z4 z5 z6 z7 : SV} (hl : r.length ≤ 1000) :
    q1__law_test_edit [z0, z1, z2, .val (rowD r), z4, z5, z6, z7, .un] = .ok (r.map fun x => .int (if x < 0 then -x else x)) [z0, z1, z2, .val (rowD r), z4, z5, z6, z7, .un] := by
  have key := lcM_map (vs := [8]) (t := .sl 8) (el := e1__law_test_edit) (ρ := [z0, z1, z2, .val (rowD r), z4, z5, z6, z7, .un]) D.int r (fun x => .int (if x < 0 then -x else x)) rfl (by rw [sizeLine_eq]; omega) fun x hx => by
    have : absD [.int x] = .ok (.int (if x < 0 then -x else x)) := rfl
    simp [turnM, e1__law_test_edit, this]
  unfold q1__law_test_edit
  simp [key]
theorem e_test_edit {xs : List D} {b : Nat} (h : Bowl b xs) (hb : b < 500000) (ok : LpOk l) : ∃ r ys, m__law_test_edit (.own true xs) [dictD l, lpD l] = .ok r (.own true ys) ∧ EditOk r ∧ Bowl (b + 20) ys := by
  have n3 : l.names.length ≤ 3 := ok.n3
  have t4 := ok.t4
  obtain ⟨m, x1, hm, g1, b1⟩ := e_pickM (fun m : Bool => D.str (sgS m)) [true, false] h (by simp) (by simp) (by omega)
  have g1 : m__law_pick (.own true xs) [.lst [.str (Str.ofString "more"), .str (Str.ofString "least")]] = .ok (.str (sgS m)) (.own true x1) := g1
  obtain ⟨M, x2, hM, g2, b2⟩ := e_pickM D.int [3, 99, 99, 140] b1 (by simp) (by simp) (by omega)
  simp only [List.map_cons, List.map_nil] at g2
  have M1 : 1 ≤ M ∧ M ≤ 140 := by
    simp only [List.mem_cons, List.not_mem_nil, or_false] at hM
    omega
  obtain ⟨r, x3, g3, lr, sr, b3⟩ := e_lineZ b2 (n := l.names.length + 1) (M := M) M1.1 ((sz_small (by omega) (by omega)).mono (by decide)) (by omega)
  have g3 : m__law_line (.own true x2) [.int ((l.names.length : Int) + 1), .int M] = .ok (rowD r) (.own true x3) := g3
  obtain ⟨a, q, hr⟩ : ∃ a q, r = a :: q := by
    cases hh : r with
    | nil => rw [hh] at lr; simp at lr
    | cons a q => exact ⟨a, q, rfl⟩
  have sz : ∀ x ∈ r, Sz 600 x := (sr.mono M1.2).sz ((sz_small (by decide) (by decide)).mono (by decide))
  have mx : maxLD [.lst (r.map fun x => .int (if x < 0 then -x else x))] = .ok (.int (maxI (if a < 0 then -a else a) (q.map fun x => if x < 0 then -x else x))) := by
    have e : (r.map fun x => D.int (if x < 0 then -x else x)) = ((if a < 0 then -a else a) :: q.map fun x => if x < 0 then -x else x).map D.int := by
      rw [hr, List.map_cons, List.map_cons, List.map_map]; rfl
    show maxH _ = _
    rw [e]
    unfold maxH
    rw [intsD_map]
  have gt := max_gt (a := a) (r := q)
  rw [← hr] at gt
  have ha := q_abs (r := r) (z0 := .own true x3) (z1 := .val (dictD l)) (z2 := .val (lpD l)) (z4 := .val (dictD (withT l ⟨m, r⟩))) (z5 := .un) (z6 := .val (.int l.names.length)) (z7 := .val (.str (sgS m))) (by omega)
  obtain ⟨AL, hAL⟩ : ∃ AL, AL = r.map fun x => D.int (if x < 0 then -x else x) := ⟨_, rfl⟩
  rw [← hAL] at mx ha
  generalize hMI : maxI (if a < 0 then -a else a) (q.map fun x => if x < 0 then -x else x) = MI at *
  have ot := other_checks (a := .tup (l.names.map .str)) (b := .tup (l.steps.map rowD)) (c := .tup (l.tests.map tstD)) (v := tstsD (l.tests ++ [⟨m, r⟩]))
  have ot : m__law_other [dictD l, .str (Str.ofString "checks"), tstsD (l.tests ++ [⟨m, r⟩])] = .ok (dictD (withT l ⟨m, r⟩)) := ot
  have ad : addD (tstsD l.tests) (.tup [.tup [.str (sgS m), rowD r]]) = .ok (tstsD (l.tests ++ [⟨m, r⟩])) := by
    show addD (.tup (l.tests.map tstD)) (.tup [.tup [.str (sgS m), rowD r]]) = _
    rw [addT (by simp; omega)]
    unfold tstsD
    rw [List.map_append]; rfl
  have tp1 : tupD [.str (sgS m), rowD r] = .ok (.tup [.str (sgS m), rowD r]) := rfl
  have gw : dgetD (dictD l) (.str (Str.ofString "words")) = .ok (strsT l.names) := by simp
  have gc : dgetD (dictD l) (.str (Str.ofString "checks")) = .ok (tstsD l.tests) := by simp
  have is1 := isiS_lp (l := withT l ⟨m, r⟩)
  obtain ⟨dl, hdl⟩ : ∃ dl, dl = dictD l := ⟨_, rfl⟩
  obtain ⟨du, hdu⟩ : ∃ du, du = dictD (withT l ⟨m, r⟩) := ⟨_, rfl⟩
  rw [← hdl] at gw gc ot ha ⊢
  rw [← hdu] at ot ha is1
  by_cases c : l.tests.length = 4 ∨ (r.all fun x => decide (-99 ≤ x ∧ x ≤ 99)) = false
  · -- no loop
    have wb := wt_bad (t := ⟨m, r⟩) ok sz (by rw [lr]; rfl) c
    have wb : m_Loop_with_test [lpD l, .str (sgS m), rowD r] = _ := wb
    have w1 : ∀ z0 z1 z4 z5 z6 z8 : SV, l1__law_test_edit [z0, z1, .val (lpD l), .val (rowD r), z4, z5, z6, .val (.str (sgS m)), z8] = .exc (exE (Str.ofString "InvalidLoop")) [z0, z1, .val (lpD l), .val (rowD r), z4, z5, z6, .val (.str (sgS m)), z8] := fun z0 z1 z4 z5 z6 z8 => by
      have z := ap_methL (m := m_Loop_with_test) (f := Str.ofString "with_test") (k := 3) (fe := mVar 2) (fs := mCons (mVar 7) (mCons (mVar 3) mNil)) (ρ := [z0, z1, .val (lpD l), .val (rowD r), z4, z5, z6, .val (.str (sgS m)), z8]) (l := l) (ds := [.str (sgS m), rowD r]) (by simp) (by simp) rfl
      unfold l1__law_test_edit; rw [z, wb]; rfl
    have is2 := isiS_str (s := Str.ofString "loop")
    refine ⟨.lst [.str (Str.ofString "loop"), .str (Str.ofString "loop")], x3, ?_, .inl ⟨_, rfl⟩, b3.mono (by omega)⟩
    unfold m__law_test_edit b__law_test_edit runI
    by_cases c4 : l.tests.length = 4
    · simp [gw, g1, g2, g3, gc, tp1, ad, ot, c4, tupD_of, lstD_of, sizeLine_eq, w1, met13_loop, is2]
    · have cA : (r.all fun x => decide (-99 ≤ x ∧ x ≤ 99)) = false := c.resolve_left c4
      rw [cA] at gt
      have gt : 99 < MI := of_decide_eq_true gt
      have c4' : ¬ ((l.tests.length : Int) = 4) := by omega
      simp [gw, g1, g2, g3, gc, tp1, ad, ot, c4, c4', ha, mx, gt, tupD_of, lstD_of, sizeLine_eq, w1, met13_loop, is2]
  · have c4 : ¬ l.tests.length = 4 := fun z => c (.inl z)
    have c4' : ¬ ((l.tests.length : Int) = 4) := by omega
    have cA : (r.all fun x => decide (-99 ≤ x ∧ x ≤ 99)) = true := by
      cases hh : r.all fun x => decide (-99 ≤ x ∧ x ≤ 99) with
      | true => rfl
      | false => exact (c (.inr hh)).elim
    rw [cA] at gt
    have gt : ¬ 99 < MI := of_decide_eq_false gt
    have s99 : small 99 r := fun x hx => of_decide_eq_true (List.all_eq_true.mp cA x hx)
    have okt : LpOk (withT l ⟨m, r⟩) := withT_ok ok ⟨by rw [lr]; rfl, s99⟩ (by omega)
    have wo := wt_ok (t := ⟨m, r⟩) ok sz (by rw [lr]; rfl) (by omega) okt
    have wo : m_Loop_with_test [lpD l, .str (sgS m), rowD r] = .ok (lpD (withT l ⟨m, r⟩)) := wo
    have w1 : ∀ z0 z1 z4 z5 z6 z8 : SV, l1__law_test_edit [z0, z1, .val (lpD l), .val (rowD r), z4, z5, z6, .val (.str (sgS m)), z8] = .ok (lpD (withT l ⟨m, r⟩)) [z0, z1, .val (lpD l), .val (rowD r), z4, z5, z6, .val (.str (sgS m)), z8] := fun z0 z1 z4 z5 z6 z8 => by
      have z := ap_methL (m := m_Loop_with_test) (f := Str.ofString "with_test") (k := 3) (fe := mVar 2) (fs := mCons (mVar 7) (mCons (mVar 3) mNil)) (ρ := [z0, z1, .val (lpD l), .val (rowD r), z4, z5, z6, .val (.str (sgS m)), z8]) (l := l) (ds := [.str (sgS m), rowD r]) (by simp) (by simp) rfl
      unfold l1__law_test_edit; rw [z, wo]; rfl
    have back := wo_ok (l := withT l ⟨m, r⟩) (i := l.tests.length) okt (by simp [withT]) (by rw [less_with]; exact ok)
    rw [less_with] at back
    have w2 : ∀ ρ : Ro, mVar 5 ρ = .ok (lpD (withT l ⟨m, r⟩)) ρ → mVar 1 ρ = .ok dl ρ → mMeth [(Str.ofString "Loop", m_Loop_without_test)] (Str.ofString "without_test") 2 (mVar 5) (mCons (mL lenD (mCons (m2 dgetD (mVar 1) (mC (.str (Str.ofString "checks")))) mNil)) mNil) ρ = .ok (lpD l) ρ := fun ρ h1 h2 => by
      have z := ap_methL (m := m_Loop_without_test) (f := Str.ofString "without_test") (k := 2) (fe := mVar 5) (fs := mCons (mL lenD (mCons (m2 dgetD (mVar 1) (mC (.str (Str.ofString "checks")))) mNil)) mNil) (ρ := ρ) (l := withT l ⟨m, r⟩) (ds := [.int l.tests.length]) h1 (by simp [h2, gc]) rfl
      rw [z, back]; rfl
    have il : isiOD (Str.ofString "Loop") (lpD (withT l ⟨m, r⟩)) = .ok (.bl true) := isi_lpD
    obtain ⟨mu, hmu⟩ : ∃ mu, mu = lpD (withT l ⟨m, r⟩) := ⟨_, rfl⟩
    refine ⟨.lst [dictD (withT l ⟨m, r⟩), lpD (withT l ⟨m, r⟩)], x3, ?_, .inr ⟨_, okt, rfl⟩, b3.mono (by omega)⟩
    rw [← hdu, ← hmu]
    rw [← hmu] at w1 w2 il
    unfold m__law_test_edit b__law_test_edit runI
    simp [gw, g1, g2, g3, gc, tp1, ad, ot, c4, c4', ha, mx, gt, tupD_of, lstD_of, sizeLine_eq, w1, met13_ok, is1, il, w2, ne_self]
end
end Pm
namespace Pm
open PySem PySem.Spec PyProof.Rows L2 Mr
def five (n : Nat) : List D := [.int n, .int (-1), .non, .bl true, .str (Str.ofString "0")]
theorem odd_less {n : Nat} (h1 : 1 ≤ n) (h4 : n ≤ 4) : ∃ r1 r2 ds, listRgD (.int n) = .ok r1 ∧ mulD r1 (.int 2) = .ok r2 ∧ addD r2 (.lst [.int n, .int (-1), .non, .bl true, .str (Str.ofString "0")]) = .ok (.lst ds) ∧ ds ≠ [] ∧ ds.length < 1000 ∧
    ∀ d ∈ ds, (∃ i : Nat, i < n ∧ d = .int i) ∨ d ∈ five n := by
  have hn : n = 1 ∨ n = 2 ∨ n = 3 ∨ n = 4 := by omega
  rcases hn with rfl | rfl | rfl | rfl
  · refine ⟨.lst [.int 0], .lst [.int 0, .int 0], [.int 0, .int 0] ++ five 1, by kernel_rfl, by kernel_rfl, by kernel_rfl, by simp, by simp [five], fun d hd => ?_⟩
    rcases List.mem_append.mp hd with hd | hd
    · simp only [List.mem_cons, List.not_mem_nil, or_false, or_self] at hd
      exact .inl ⟨0, by decide, hd⟩
    · exact .inr hd
  · refine ⟨.lst [.int 0, .int 1], .lst [.int 0, .int 1, .int 0, .int 1], [.int 0, .int 1, .int 0, .int 1] ++ five 2, by kernel_rfl, by kernel_rfl, by kernel_rfl, by simp, by simp [five], fun d hd => ?_⟩
    rcases List.mem_append.mp hd with hd | hd
    · simp only [List.mem_cons, List.not_mem_nil, or_false] at hd
      rcases hd with hd | hd | hd | hd
      · exact .inl ⟨0, by decide, hd⟩
      · exact .inl ⟨1, by decide, hd⟩
      · exact .inl ⟨0, by decide, hd⟩
      · exact .inl ⟨1, by decide, hd⟩
    · exact .inr hd
  · refine ⟨.lst [.int 0, .int 1, .int 2], .lst [.int 0, .int 1, .int 2, .int 0, .int 1, .int 2], [.int 0, .int 1, .int 2, .int 0, .int 1, .int 2] ++ five 3, by kernel_rfl, by kernel_rfl, by kernel_rfl, by simp, by simp [five], fun d hd => ?_⟩
    rcases List.mem_append.mp hd with hd | hd
    · simp only [List.mem_cons, List.not_mem_nil, or_false] at hd
      rcases hd with hd | hd | hd | hd | hd | hd
      · exact .inl ⟨0, by decide, hd⟩
      · exact .inl ⟨1, by decide, hd⟩
      · exact .inl ⟨2, by decide, hd⟩
      · exact .inl ⟨0, by decide, hd⟩
      · exact .inl ⟨1, by decide, hd⟩
      · exact .inl ⟨2, by decide, hd⟩
    · exact .inr hd
  · refine ⟨.lst [.int 0, .int 1, .int 2, .int 3], .lst [.int 0, .int 1, .int 2, .int 3, .int 0, .int 1, .int 2, .int 3], [.int 0, .int 1, .int 2, .int 3, .int 0, .int 1, .int 2, .int 3] ++ five 4, by kernel_rfl, by kernel_rfl, by kernel_rfl, by simp, by simp [five], fun d hd => ?_⟩
    rcases List.mem_append.mp hd with hd | hd
    · simp only [List.mem_cons, List.not_mem_nil, or_false] at hd
      rcases hd with hd | hd | hd | hd | hd | hd | hd | hd
      · exact .inl ⟨0, by decide, hd⟩
      · exact .inl ⟨1, by decide, hd⟩
      · exact .inl ⟨2, by decide, hd⟩
      · exact .inl ⟨3, by decide, hd⟩
      · exact .inl ⟨0, by decide, hd⟩
      · exact .inl ⟨1, by decide, hd⟩
      · exact .inl ⟨2, by decide, hd⟩
      · exact .inl ⟨3, by decide, hd⟩
    · exact .inr hd
section
variable {l : Lp}
theorem e_less_edit {xs : List D} {b : Nat} (h : Bowl b xs) (hb : b < 500000) (ok : LpOk l) : ∃ r ys, m__law_less_edit (.own true xs) [dictD l, lpD l] = .ok r (.own true ys) ∧ EditOk r ∧ Bowl (b + 20) ys := by
  have n3 : l.names.length ≤ 3 := ok.n3
  have t4 := ok.t4
  have t1 : 1 ≤ l.tests.length := List.length_pos_iff.mpr ok.t0
  obtain ⟨r1, r2, ds, o1, o2, o3, o4, o5, o6⟩ := odd_less t1 t4
  obtain ⟨d, x1, hd, g1, b1⟩ := e_pickL (ds := ds) h o4 (by omega) (by omega)
  have gc : dgetD (dictD l) (.str (Str.ofString "checks")) = .ok (tstsD l.tests) := by simp
  have ol : lstD [.int (l.tests.length : Nat), .int (-1), .non, .bl true, .str (Str.ofString "0")] = .ok (.lst [.int (l.tests.length : Nat), .int (-1), .non, .bl true, .str (Str.ofString "0")]) := lstD_of (by rw [sizeLine_eq]; simp)
  rcases o6 d hd with ⟨i, hi, rfl⟩ | h5
  · -- a test that there is
    have ii : isiD [.int i, .opq (.ty "int")] = .ok (.bl true) := id rfl
    have ib : isiD [.int i, .opq (.ty "bool")] = .ok (.bl false) := id rfl
    obtain ⟨s1, s2, a1⟩ : sliceD (tstsD l.tests) none (some (i : Int)) = .ok (tstsD (l.tests.take i)) ∧ sliceD (tstsD l.tests) (some ((i : Int) + 1)) none = .ok (tstsD (l.tests.drop (i + 1))) ∧ addD (tstsD (l.tests.take i)) (tstsD (l.tests.drop (i + 1))) = .ok (tstsD (l.tests.eraseIdx i)) := by
      refine ⟨?_, ?_, ?_⟩
      · show FR.ok (D.tup (Mr.cutD (l.tests.map tstD) none (some (i : Int)))) = _
        rw [cut_take]; unfold tstsD; rw [List.map_take]
      · show FR.ok (D.tup (Mr.cutD (l.tests.map tstD) (some ((i : Int) + 1)) none)) = _
        rw [show ((i : Int) + 1) = ((i + 1 : Nat) : Int) by omega, cut_drop]; unfold tstsD; rw [List.map_drop]
      · show addD (.tup ((l.tests.take i).map tstD)) (.tup ((l.tests.drop (i + 1)).map tstD)) = _
        rw [addT (by simp; omega), List.eraseIdx_eq_take_drop_succ]
        unfold tstsD
        rw [List.map_append]
    have lt0 : ¬ ((i : Int) < 0) := by omega
    have ge0 : ¬ ((l.tests.length : Int) ≤ (i : Int)) := by omega
    by_cases c : 2 ≤ l.tests.length
    · have okt := lessT_ok ok hi c
      have wo := wo_ok ok hi okt
      have ot := other_checks (a := .tup (l.names.map .str)) (b := .tup (l.steps.map rowD)) (c := .tup (l.tests.map tstD)) (v := tstsD (l.tests.eraseIdx i))
      have ot : m__law_other [dictD l, .str (Str.ofString "checks"), tstsD (l.tests.eraseIdx i)] = .ok (dictD (lessT l i)) := ot
      have c1 : (1 : Int) < l.tests.length := by omega
      obtain ⟨dl, hdl⟩ : ∃ dl, dl = dictD l := ⟨_, rfl⟩
      obtain ⟨du, hdu⟩ : ∃ du, du = dictD (lessT l i) := ⟨_, rfl⟩
      rw [← hdl] at gc ot ⊢
      rw [← hdu] at ot
      have w1 : ∀ z0 z1 z3 z5 z6 : SV, l1__law_less_edit [z0, z1, .val (lpD l), z3, .val (.int i), z5, z6] = .ok (lpD (lessT l i)) [z0, z1, .val (lpD l), z3, .val (.int i), z5, z6] := fun z0 z1 z3 z5 z6 => by
        have z := ap_methL (m := m_Loop_without_test) (f := Str.ofString "without_test") (k := 2) (fe := mVar 2) (fs := mCons (mVar 4) mNil) (ρ := [z0, z1, .val (lpD l), z3, .val (.int i), z5, z6]) (l := l) (ds := [.int i]) (by simp) (by simp) rfl
        unfold l1__law_less_edit; rw [z, wo]; rfl
      refine ⟨.lst [dictD (lessT l i), lpD (lessT l i)], x1, ?_, .inr ⟨_, okt, rfl⟩, b1.mono (by omega)⟩
      rw [← hdu]
      unfold m__law_less_edit b__law_less_edit runI
      simp [gc, o1, o2, o3, ol, g1, ii, ib, lt0, ge0, s1, s2, a1, c1, ot, w1, met13_ok, lstD_of, sizeLine_eq]
    · obtain ⟨t, ht⟩ : ∃ t, l.tests = [t] := List.length_eq_one_iff.mp (by omega)
      have wl := wo_last ok ht
      have i0 : i = 0 := by omega
      subst i0
      have c1 : ¬ (1 : Int) < l.tests.length := by omega
      obtain ⟨dl, hdl⟩ : ∃ dl, dl = dictD l := ⟨_, rfl⟩
      rw [← hdl] at gc ⊢
      have w1 : ∀ z0 z1 z3 z5 z6 : SV, l1__law_less_edit [z0, z1, .val (lpD l), z3, .val (.int 0), z5, z6] = .exc (exE (Str.ofString "InvalidLoop")) [z0, z1, .val (lpD l), z3, .val (.int 0), z5, z6] := fun z0 z1 z3 z5 z6 => by
        have z := ap_methL (m := m_Loop_without_test) (f := Str.ofString "without_test") (k := 2) (fe := mVar 2) (fs := mCons (mVar 4) mNil) (ρ := [z0, z1, .val (lpD l), z3, .val (.int 0), z5, z6]) (l := l) (ds := [.int 0]) (by simp) (by simp) rfl
        unfold l1__law_less_edit; rw [z, wl]; rfl
      refine ⟨.lst [.str (Str.ofString "loop"), .str (Str.ofString "loop")], x1, ?_, .inl ⟨_, rfl⟩, b1.mono (by omega)⟩
      have s1 : sliceD (tstsD l.tests) none (some 0) = .ok (tstsD (l.tests.take 0)) := s1
      have s2 : sliceD (tstsD l.tests) (some 1) none = .ok (tstsD (l.tests.drop 1)) := s2
      obtain ⟨A1, hA1⟩ : ∃ A1, A1 = tstsD (l.tests.take 0) := ⟨_, rfl⟩
      obtain ⟨A2, hA2⟩ : ∃ A2, A2 = tstsD (l.tests.drop 1) := ⟨_, rfl⟩
      have a1 : addD (tstsD (l.tests.take 0)) (tstsD (l.tests.drop 1)) = .ok (tstsD (l.tests.eraseIdx 0)) := a1
      rw [← hA1] at s1 a1
      rw [← hA2] at s2 a1
      have g1 : m__law_pick (.own true xs) [.lst ds] = .ok (.int 0) (.own true x1) := g1
      have ii : isiD [.int 0, .opq (.ty "int")] = .ok (.bl true) := ii
      have ib : isiD [.int 0, .opq (.ty "bool")] = .ok (.bl false) := ib
      have ge0 : ¬ ((l.tests.length : Int) ≤ 0) := by omega
      have ge1 : ¬ (l.tests.length = 0) := by omega
      unfold m__law_less_edit b__law_less_edit runI
      simp [gc, o1, o2, o3, ol, g1, ii, ib, ge0, ge1, s1, s2, a1, c1, w1, met13_loop, lstD_of, sizeLine_eq]
  · -- none
    have ha : d ∈ atL l.tests.length := by
      simp only [five, List.mem_cons, List.not_mem_nil, or_false] at h5
      rcases h5 with rfl | rfl | rfl | rfl | rfl <;> simp [atL]
    obtain ⟨pa, na, ka, sa⟩ := at_ok (by omega) d ha
    have er2 := e_reprX sa ka (by decide)
    obtain ⟨sh2, hsh2⟩ : ∃ sh, sh = (pyX d).shown := ⟨_, rfl⟩
    have lsh2 : sh2.length ≤ 2000 := by rw [hsh2]; exact sa.1
    rw [← hsh2] at er2
    have ln2 : (Str.ofString "number ").length = 7 := by decide +kernel
    have ea2 : addD (.str (Str.ofString "number ")) (.str sh2) = .ok (.str (Str.ofString "number " ++ sh2)) := add_strs (by omega)
    obtain ⟨nu, hnu⟩ : ∃ nm, nm = Str.ofString "number " ++ sh2 := ⟨_, rfl⟩
    rw [← hnu] at ea2
    have sU := met13_number er2 ea2
    have wb := wo_bad pa na
    have w1 : ∀ z0 z1 z3 z5 z6 : SV, l1__law_less_edit [z0, z1, .val (lpD l), z3, .val d, z5, z6] = .exc (exV (Str.ofString "InvalidNumber") (Str.ofString "value") d) [z0, z1, .val (lpD l), z3, .val d, z5, z6] := fun z0 z1 z3 z5 z6 => by
      have z := ap_methL (m := m_Loop_without_test) (f := Str.ofString "without_test") (k := 2) (fe := mVar 2) (fs := mCons (mVar 4) mNil) (ρ := [z0, z1, .val (lpD l), z3, .val d, z5, z6]) (l := l) (ds := [d]) (by simp) (by simp) rfl
      unfold l1__law_less_edit; rw [z, wb]; rfl
    obtain ⟨dl, hdl⟩ : ∃ dl, dl = dictD l := ⟨_, rfl⟩
    rw [← hdl] at gc ⊢
    refine ⟨.lst [.str nu, .str nu], x1, ?_, .inl ⟨_, rfl⟩, b1.mono (by omega)⟩
    have q1 : isiD [.int l.tests.length, .opq (.ty "int")] = .ok (.bl true) := id rfl
    have q2 : isiD [.int l.tests.length, .opq (.ty "bool")] = .ok (.bl false) := id rfl
    have q3 : isiD [.int (-1), .opq (.ty "int")] = .ok (.bl true) := id rfl
    have q4 : isiD [.int (-1), .opq (.ty "bool")] = .ok (.bl false) := id rfl
    have q5 : isiD [.non, .opq (.ty "int")] = .ok (.bl false) := id rfl
    have q6 : isiD [.bl true, .opq (.ty "int")] = .ok (.bl true) := id rfl
    have q7 : isiD [.bl true, .opq (.ty "bool")] = .ok (.bl true) := id rfl
    have q8 : isiD [.str (Str.ofString "0"), .opq (.ty "int")] = .ok (.bl false) := id rfl
    simp only [five, List.mem_cons, List.not_mem_nil, or_false] at h5
    have lt0 : ¬ ((l.tests.length : Int) < 0) := by omega
    unfold m__law_less_edit b__law_less_edit runI
    rcases h5 with rfl | rfl | rfl | rfl | rfl
    · simp [gc, o1, o2, o3, ol, g1, q1, q2, lt0, er2, ea2, w1, sU, lstD_of, sizeLine_eq]
    · simp [gc, o1, o2, o3, ol, g1, q3, q4, er2, ea2, w1, sU, lstD_of, sizeLine_eq]
    · simp [gc, o1, o2, o3, ol, g1, q5, er2, ea2, w1, sU, lstD_of, sizeLine_eq]
    · simp [gc, o1, o2, o3, ol, g1, q6, q7, er2, ea2, w1, sU, lstD_of, sizeLine_eq]
    · simp [gc, o1, o2, o3, ol, g1, q8, er2, ea2, w1, sU, lstD_of, sizeLine_eq]
end
end Pm
namespace Pm
open PySem PySem.Spec PyProof.Rows L2 Mr
/-- the rest of the edit, when the step is made -/
noncomputable def tl11 : M Fl :=
  (xSeq (xPut (.sl 5) (mCall m__law_other 3 [] (mCons (mVar 1) (mCons (mC (.str (Str.ofString "moves"))) (mCons (m2 addD (m2 addD (mSlice (m2 dgetD (mVar 1) (mC (.str (Str.ofString "moves")))) mONone (mOSome (mVar 8))) (mL tupD (mCons (mVar 4) mNil))) (mSlice (m2 dgetD (mVar 1) (mC (.str (Str.ofString "moves")))) (mOSome (m2 addD (mVar 8) (mC (.int 1)))) mONone)) mNil)))))
  (xSeq (xIf (tOr (tOf (m2 gtD (mL absD (mCons (mVar 9) mNil)) (mC (.int 9)))) (tOf (m2 neD (mSlice (mVar 4) (mOSome (m2 addD (mVar 8) (mC (.int 2)))) mONone) (m2 mulD (mL tupD (mCons (mC (.int 0)) mNil)) (m2 subD (m2 subD (mVar 3) (mVar 8)) (mC (.int 1))))))) (xPut (.sl 5) (mC (.str (Str.ofString "loop")))) xNx)
  (xSeq (xPut (.sl 6) (mLam m__law_met_error_k13 l1__law_step_edit))
  (xSeq (xPut (.sl 7) (mIf (tOf (m1 (isiOD (Str.ofString "Loop")) (mVar 6))) (mMeth [(Str.ofString "Loop", m_Loop_with_step)] (Str.ofString "with_step") 3 (mVar 6) (mCons (m2 ixD (m2 dgetD (mVar 1) (mC (.str (Str.ofString "words")))) (mVar 8)) (mCons (m2 ixD (m2 dgetD (mVar 1) (mC (.str (Str.ofString "moves")))) (mVar 8)) mNil))) (mVar 2)))
  (xSeq (xIf (tAnd (tNot (tOf (mL isiD (mCons (mVar 5) (mCons (mC (.opq (.ty "str"))) mNil))))) (tOf (m2 (neW "Loop" m_Loop___eq__) (mVar 7) (mVar 2)))) (xRet (mL lstD (mCons (mVar 5) (mCons (mC (.str (Str.ofString "else"))) mNil)))) xNx)
  (xRet (mL lstD (mCons (mVar 5) (mCons (mVar 6) mNil)))))))))
theorem b_step_edit : b__law_step_edit =
  (xSeq (xPut (.sl 3) (mL lenD (mCons (m2 dgetD (mVar 1) (mC (.str (Str.ofString "words")))) mNil)))
  (xSeq (xPut (.tp [(.sl 8), (.sl 9)]) (mL tupD (mCons (mIo m__law_bit 1 0 (mCons (mVar 3) mNil)) (mCons (mIo m__law_pick 1 0 (mCons (mL lstD (mCons (mC (.int 0)) (mCons (mC (.int 1)) (mCons (m1 negD (mC (.int 2))) (mCons (mC (.int 9)) (mCons (m1 negD (mC (.int 9))) (mCons (mC (.int 10)) mNil))))))) mNil)) mNil))))
  (xSeq (xPut (.sl 4) (m2 addD (m2 addD (mIo m__law_line 2 0 (mCons (m2 addD (mVar 8) (mC (.int 1))) (mCons (mC (.int 20)) mNil))) (mL tupD (mCons (mVar 9) mNil))) (m2 mulD (mL tupD (mCons (mC (.int 0)) mNil)) (m2 subD (m2 subD (mVar 3) (mVar 8)) (mC (.int 1))))))
  (xSeq (xIf (tAnd (tOf (m2 ltD (mVar 8) (m2 subD (mVar 3) (mC (.int 1))))) (tOf (m2 eqD (mIo m__law_bit 1 0 (mCons (mC (.int 4)) mNil)) (mC (.int 0))))) (xPut (.sl 4) (m2 addD (mSlice (mVar 4) mONone (mOSome (m1 negD (mC (.int 1))))) (mL tupD (mCons (mC (.int 1)) mNil)))) xNx)
  tl11)))) := rfl
theorem eqv_rows : ∀ (a b : List Int), eqv (rowD a) (rowD b) = decide (a = b) := by
  intro xs ys
  show PyData.eqvAll (pys (xs.map D.int)) (pys (ys.map D.int)) = _
  induction xs generalizing ys with
  | nil => cases ys with
    | nil => rfl
    | cons y ys => rfl
  | cons x xs ih => cases ys with
    | nil => rfl
    | cons y ys =>
      have e : PyData.eqvAll (pys ((x :: xs).map D.int)) (pys ((y :: ys).map D.int)) = (decide (x = y) && PyData.eqvAll (pys (xs.map D.int)) (pys (ys.map D.int))) := rfl
      rw [e, ih ys, Bool.eq_iff_iff]
      simp
theorem zero_all : ∀ (r : List Int), decide (r = List.replicate r.length 0) = r.all fun x => decide (x = 0)
  | [] => rfl
  | x :: r => by
    rw [List.all_cons, ← zero_all r, List.length_cons, List.replicate_succ, Bool.eq_iff_iff]
    simp
theorem ne_zero {r : List Int} {n : Nat} (h : r.length = n) : neD (rowD r) (rowD (List.replicate n 0)) = .ok (.bl (!(r.all fun x => decide (x = 0)))) := by
  unfold neD
  rw [if_pos ⟨okD_rowD, okD_rowD⟩, eqv_rows, ← h, zero_all]
section
variable {l : Lp}
theorem with_back {k : Nat} {X r : List Int} (hr : l.steps[k]? = some r) : withS (withS l k X) k r = l := by
  have e : (l.steps.set k X).set k r = l.steps := by
    rw [List.set_set]
    obtain ⟨hk, e⟩ := List.getElem?_eq_some_iff.mp hr
    rw [← e, List.set_getElem_self]
  show (⟨l.names, (l.steps.set k X).set k r, l.tests⟩ : Lp) = l
  rw [e]
theorem e_tl11 {x : List D} {k : Nat} {X : List Int} {o : Int} {s : Str} (ok : LpOk l) (hk : l.names[k]? = some s) (lX : X.length = l.n + 1) (sX : small 20 X) (oX : X[k + 1]? = some o) :
    ∃ r ρ, tl11 [.own true x, .val (dictD l), .val (lpD l), .val (.int l.names.length), .val (rowD X), .un, .un, .un, .val (.int k), .val (.int o)] = .ok (.rt r) (.own true x :: ρ) ∧ EditOk r := by
  have n3 : l.names.length ≤ 3 := ok.n3
  have sl : l.steps.length = l.names.length := ok.sl
  obtain ⟨hk1, hk2⟩ := List.getElem?_eq_some_iff.mp hk
  have lX' : X.length = l.names.length + 1 := lX
  have szX : ∀ y ∈ X, Sz 600 y := sX.sz ((sz_small (by decide) (by decide)).mono (by decide))
  obtain ⟨r0, hr0⟩ : ∃ r0, l.steps[k]? = some r0 := ⟨_, List.getElem?_eq_getElem (by omega)⟩
  have so := ok.st k r0 hr0
  have ixw : ixD (strsT l.names) (.int k) = .ok (.str s) := ixD_tup (k := k) (by rw [List.getElem?_map, hk]; rfl)
  have ixm : ixD (rowsD l.steps) (.int k) = .ok (rowD r0) := ixD_tup (k := k) (by rw [List.getElem?_map, hr0]; rfl)
  obtain ⟨a, d, s1, s2, a1, a2, ed⟩ := put_at (xs := l.steps.map rowD) (k := k) (x := rowD X) (by rw [List.length_map]; omega) (by rw [List.length_map]; omega)
  rw [set_map] at ed
  have s1 : sliceD (rowsD l.steps) none (some (k : Int)) = _ := s1
  have s2 : sliceD (rowsD l.steps) (some ((k : Int) + 1)) none = _ := s2
  have ot := other_moves (a := .tup (l.names.map .str)) (b := .tup (l.steps.map rowD)) (c := .tup (l.tests.map tstD)) (v := d)
  have ot : m__law_other [dictD l, .str (Str.ofString "moves"), d] = .ok (dictD (withS l k X)) := by rw [ed] at *; exact ot
  have z1 : sliceD (rowD X) (some ((k : Int) + 2)) none = .ok (rowD (X.drop (k + 2))) := slice_dropZ (by omega)
  have z2 : mulD (.tup [.int 0]) (.int ((l.names.length : Int) - k - 1)) = .ok (rowD (List.replicate (l.names.length - k - 1) 0)) := mul_zeroZ (by omega) (by omega)
  have z3 := ne_zero (r := X.drop (k + 2)) (n := l.names.length - k - 1) (by rw [List.length_drop]; omega)
  have ab : absD [.int o] = .ok (.int (if o < 0 then -o else o)) := rfl
  have sv := step_val (n := l.n) (i := k) sX lX hk1 ok.n3 oX
  generalize hZ : ((X.drop (k + 2)).all fun x => decide (x = 0)) = Z at *
  have gw : dgetD (dictD l) (.str (Str.ofString "words")) = .ok (strsT l.names) := by simp
  have gm : dgetD (dictD l) (.str (Str.ofString "moves")) = .ok (rowsD l.steps) := by simp
  obtain ⟨R1, hR1⟩ : ∃ R1, R1 = rowD (X.drop (k + 2)) := ⟨_, rfl⟩
  obtain ⟨R2, hR2⟩ : ∃ R2, R2 = rowD (List.replicate (l.names.length - k - 1) 0) := ⟨_, rfl⟩
  rw [← hR1] at z1 z3
  rw [← hR2] at z2 z3
  by_cases c : (-9 ≤ o ∧ o ≤ 9) ∧ Z = true
  · obtain ⟨c1, c2⟩ := c
    rw [c2] at z3 hZ
    have stX : StepOk l.n k X := ⟨lX, sX, fun y hy => by rw [oX] at hy; cases hy; exact c1, fun j y hj hy => by
      have : y ∈ X.drop (k + 2) := by
        refine List.mem_of_getElem? (i := j - (k + 2)) ?_
        rw [List.getElem?_drop, show k + 2 + (j - (k + 2)) = j by omega]; exact hy
      exact of_decide_eq_true (List.all_eq_true.mp hZ y this)⟩
    have okt := withS_ok ok stX
    have w := ws_ok ok hk szX lX okt
    have okb : LpOk (withS (withS l k X) k r0) := by rw [with_back hr0]; exact ok
    have wb := ws_ok (l := withS l k X) (X := r0) okt hk (so.sm.sz ((sz_small (by decide) (by decide)).mono (by decide))) so.len okb
    rw [with_back hr0] at wb
    have g9 : ¬ (9 < if o < 0 then -o else o) := by split <;> omega
    have is1 := isiS_lp (l := withS l k X)
    have il : isiOD (Str.ofString "Loop") (lpD (withS l k X)) = .ok (.bl true) := isi_lpD
    obtain ⟨dl, hdl⟩ : ∃ dl, dl = dictD l := ⟨_, rfl⟩
    obtain ⟨du, hdu⟩ : ∃ du, du = dictD (withS l k X) := ⟨_, rfl⟩
    rw [← hdl] at gw gm ot ⊢
    rw [← hdu] at ot is1
    have w1 : ∀ z0 z3 z5 z6 z7 z9 : SV, l1__law_step_edit [z0, .val dl, .val (lpD l), z3, .val (rowD X), z5, z6, z7, .val (.int k), z9] = .ok (lpD (withS l k X)) [z0, .val dl, .val (lpD l), z3, .val (rowD X), z5, z6, z7, .val (.int k), z9] := fun z0 z3 z5 z6 z7 z9 => by
      have z := ap_methL (m := m_Loop_with_step) (f := Str.ofString "with_step") (k := 3) (fe := mVar 2) (fs := mCons (m2 ixD (m2 dgetD (mVar 1) (mC (.str (Str.ofString "words")))) (mVar 8)) (mCons (mVar 4) mNil)) (ρ := [z0, .val dl, .val (lpD l), z3, .val (rowD X), z5, z6, z7, .val (.int k), z9]) (l := l) (ds := [.str s, rowD X]) (by simp) (by simp [gw, ixw]) rfl
      unfold l1__law_step_edit; rw [z, w]; rfl
    have w2 : ∀ ρ : Ro, mVar 6 ρ = .ok (lpD (withS l k X)) ρ → mVar 1 ρ = .ok dl ρ → mVar 8 ρ = .ok (.int k) ρ → mMeth [(Str.ofString "Loop", m_Loop_with_step)] (Str.ofString "with_step") 3 (mVar 6) (mCons (m2 ixD (m2 dgetD (mVar 1) (mC (.str (Str.ofString "words")))) (mVar 8)) (mCons (m2 ixD (m2 dgetD (mVar 1) (mC (.str (Str.ofString "moves")))) (mVar 8)) mNil)) ρ = .ok (lpD l) ρ := fun ρ h1 h2 h3 => by
      have z := ap_methL (m := m_Loop_with_step) (f := Str.ofString "with_step") (k := 3) (fe := mVar 6) (fs := mCons (m2 ixD (m2 dgetD (mVar 1) (mC (.str (Str.ofString "words")))) (mVar 8)) (mCons (m2 ixD (m2 dgetD (mVar 1) (mC (.str (Str.ofString "moves")))) (mVar 8)) mNil)) (ρ := ρ) (l := withS l k X) (ds := [.str s, rowD r0]) h1 (by simp [h2, h3, gw, gm, ixw, ixm]) rfl
      rw [z, wb]; rfl
    obtain ⟨mu, hmu⟩ : ∃ mu, mu = lpD (withS l k X) := ⟨_, rfl⟩
    refine ⟨.lst [dictD (withS l k X), lpD (withS l k X)], [.val dl, .val (lpD l), .val (.int l.names.length), .val (rowD X), .val (dictD (withS l k X)), .val (lpD (withS l k X)), .val (lpD l), .val (.int k), .val (.int o)], ?_, .inr ⟨_, okt, rfl⟩⟩
    rw [← hdu, ← hmu]
    rw [← hmu] at w1 w2 il
    unfold tl11
    simp [gm, s1, s2, a1, a2, ot, ab, g9, z1, z2, z3, w1, met13_ok, il, w2, is1, ne_self, tupD_of, lstD_of, sizeLine_eq]
  · have sv : m_is_step [rowD X, .int ((l.n : Int) + 1), .int ((k : Int) + 1)] = .ok (.bl false) := by
      rw [sv]
      by_cases c1 : -9 ≤ o ∧ o ≤ 9
      · cases Z with
        | true => exact (c ⟨c1, rfl⟩).elim
        | false => simp
      · simp [c1]
    have w := ws_bad ok hk szX lX sv
    obtain ⟨dl, hdl⟩ : ∃ dl, dl = dictD l := ⟨_, rfl⟩
    obtain ⟨du, hdu⟩ : ∃ du, du = dictD (withS l k X) := ⟨_, rfl⟩
    rw [← hdl] at gw gm ot ⊢
    rw [← hdu] at ot
    have w1 : ∀ z0 z3 z5 z6 z7 z9 : SV, l1__law_step_edit [z0, .val dl, .val (lpD l), z3, .val (rowD X), z5, z6, z7, .val (.int k), z9] = .exc (exE (Str.ofString "InvalidLoop")) [z0, .val dl, .val (lpD l), z3, .val (rowD X), z5, z6, z7, .val (.int k), z9] := fun z0 z3 z5 z6 z7 z9 => by
      have z := ap_methL (m := m_Loop_with_step) (f := Str.ofString "with_step") (k := 3) (fe := mVar 2) (fs := mCons (m2 ixD (m2 dgetD (mVar 1) (mC (.str (Str.ofString "words")))) (mVar 8)) (mCons (mVar 4) mNil)) (ρ := [z0, .val dl, .val (lpD l), z3, .val (rowD X), z5, z6, z7, .val (.int k), z9]) (l := l) (ds := [.str s, rowD X]) (by simp) (by simp [gw, ixw]) rfl
      unfold l1__law_step_edit; rw [z, w]; rfl
    have is2 := isiS_str (s := Str.ofString "loop")
    have il := isiL_str (s := Str.ofString "loop")
    refine ⟨.lst [.str (Str.ofString "loop"), .str (Str.ofString "loop")], [.val dl, .val (lpD l), .val (.int l.names.length), .val (rowD X), .val (.str (Str.ofString "loop")), .val (.str (Str.ofString "loop")), .val (lpD l), .val (.int k), .val (.int o)], ?_, .inl ⟨_, rfl⟩⟩
    unfold tl11
    by_cases c1 : -9 ≤ o ∧ o ≤ 9
    · have g9 : ¬ (9 < if o < 0 then -o else o) := by split <;> omega
      have zf : Z = false := by
        cases hz : Z with
        | true => exact (c ⟨c1, hz⟩).elim
        | false => rfl
      rw [zf] at z3
      simp [gm, s1, s2, a1, a2, ot, ab, g9, z1, z2, z3, w1, met13_loop, il, is2, tupD_of, lstD_of, sizeLine_eq]
    · have g9 : 9 < if o < 0 then -o else o := by split <;> omega
      simp [gm, s1, s2, a1, a2, ot, ab, g9, w1, met13_loop, il, is2, tupD_of, lstD_of, sizeLine_eq]
end
end Pm
namespace Pm
open PySem PySem.Spec PyProof.Rows L2 Mr
section
variable {l : Lp}
theorem e_step_edit {xs : List D} {b : Nat} (h : Bowl b xs) (hb : b < 500000) (ok : LpOk l) : ∃ r ys, m__law_step_edit (.own true xs) [dictD l, lpD l] = .ok r (.own true ys) ∧ EditOk r ∧ Bowl (b + 20) ys := by
  have n3 : l.names.length ≤ 3 := ok.n3
  have n1 : 1 ≤ l.names.length := List.length_pos_iff.mpr ok.n0
  obtain ⟨k, x1, g1, hk, b1⟩ := e_bit h (m := (l.names.length : Int)) (by omega) (by omega) (by omega)
  have hk : k < l.names.length := by omega
  obtain ⟨o, x2, ho, g2, b2⟩ := e_pickM D.int [0, 1, -2, 9, -9, 10] b1 (by simp) (by simp) (by omega)
  have g2 : m__law_pick (.own true x1) [.lst [.int 0, .int 1, .int (-2), .int 9, .int (-9), .int 10]] = .ok (.int o) (.own true x2) := g2
  have o10 : -9 ≤ o ∧ o ≤ 10 := by
    simp only [List.mem_cons, List.not_mem_nil, or_false] at ho
    omega
  obtain ⟨r, x3, g3, lr, sr, b3⟩ := e_line b2 (n := k + 1) (M := 20) (by decide) (by decide) (by omega)
  have g3 : m__law_line (.own true x2) [.int ((k : Int) + 1), .int 20] = .ok (rowD r) (.own true x3) := g3
  have g4 := mul_zeroZ (i := (l.names.length : Int) - k - 1) (n := l.names.length - k - 1) (by omega) (by omega)
  have g5 := add_row1 (a := r) (x := o) (by omega)
  have g6 := add_row (a := r ++ [o]) (b := List.replicate (l.names.length - k - 1) 0) (by simp; omega)
  obtain ⟨X0, hX0⟩ : ∃ X0, X0 = r ++ [o] ++ List.replicate (l.names.length - k - 1) 0 := ⟨_, rfl⟩
  rw [← hX0] at g6
  have l0 : X0.length = l.names.length + 1 := by rw [hX0]; simp [lr]; omega
  have s0 : small 20 X0 := by
    rw [hX0]
    refine small.append (small.append sr fun y hy => ?_) fun y hy => ?_
    · rw [List.mem_singleton.mp hy]; omega
    · rw [List.eq_of_mem_replicate hy]; omega
  have o0 : X0[k + 1]? = some o := by
    rw [hX0, List.getElem?_append_left (by simp [lr]), List.getElem?_append_right (by omega), lr]; simp
  obtain ⟨s, hs⟩ : ∃ s, l.names[k]? = some s := ⟨_, List.getElem?_eq_getElem hk⟩
  have gw : dgetD (dictD l) (.str (Str.ofString "words")) = .ok (strsT l.names) := by simp
  have fin : ∀ {X : List Int} {ys : List D}, X.length = l.n + 1 → small 20 X → X[k + 1]? = some o → ∃ r ρ, tl11 [.own true ys, .val (dictD l), .val (lpD l), .val (.int l.names.length), .val (rowD X), .un, .un, .un, .val (.int k), .val (.int o)] = .ok (.rt r) (.own true ys :: ρ) ∧ EditOk r :=
    fun q1 q2 q3 => e_tl11 ok hs q1 q2 q3
  have ol : lstD [.int 0, .int 1, .int (-2), .int 9, .int (-9), .int 10] = .ok (.lst [.int 0, .int 1, .int (-2), .int 9, .int (-9), .int 10]) := lstD_of (by rw [sizeLine_eq]; simp)
  have tp : tupD [.int k, .int o] = .ok (.tup [.int k, .int o]) := rfl
  by_cases c : k + 1 < l.names.length
  · have lt : (k : Int) < (l.names.length : Int) - 1 := by omega
    obtain ⟨t, x4, g7, ht, b4⟩ := e_bit b3 (m := 4) (by decide) (by decide) (by omega)
    by_cases ct : t = 0
    · subst ct
      have ne0 : X0 ≠ [] := fun z => by rw [z] at l0; simp at l0
      have sd : sliceD (rowD X0) none (some (-1)) = .ok (rowD X0.dropLast) := by rw [slice_init ne0, List.dropLast_eq_take]
      have ad : addD (rowD X0.dropLast) (.tup [.int 1]) = .ok (rowD (X0.dropLast ++ [1])) := add_row1 (by rw [List.length_dropLast]; omega)
      have lX : (X0.dropLast ++ [1]).length = l.names.length + 1 := by rw [List.length_append, List.length_dropLast, List.length_singleton]; omega
      obtain ⟨R, ρ, e, er⟩ := fin (X := X0.dropLast ++ [1]) (ys := x4) lX (small.append (fun y hy => s0 y (List.dropLast_subset _ hy)) fun y hy => by rw [List.mem_singleton.mp hy]; omega) (by
        rw [List.getElem?_append_left (by rw [List.length_dropLast]; omega), List.getElem?_dropLast, if_pos (by omega)]
        exact o0)
      obtain ⟨dl, hdl⟩ : ∃ dl, dl = dictD l := ⟨_, rfl⟩
      rw [← hdl] at gw e ⊢
      refine ⟨R, x4, ?_, er, b4.mono (by omega)⟩
      obtain ⟨R1, hR1⟩ : ∃ R1, R1 = rowD (X0.dropLast ++ [1]) := ⟨_, rfl⟩
      rw [← hR1] at ad e
      unfold m__law_step_edit runI
      rw [b_step_edit]
      simp [gw, g1, g2, g3, g4, g5, g6, ol, tp, lt, g7, sd, ad, e, tupD_of, sizeLine_eq]
    · obtain ⟨R, ρ, e, er⟩ := fin (X := X0) (ys := x4) l0 s0 o0
      obtain ⟨dl, hdl⟩ : ∃ dl, dl = dictD l := ⟨_, rfl⟩
      rw [← hdl] at gw e ⊢
      have t0 : ¬ ((t : Int) = 0) := by omega
      refine ⟨R, x4, ?_, er, b4.mono (by omega)⟩
      unfold m__law_step_edit runI
      rw [b_step_edit]
      simp [gw, g1, g2, g3, g4, g5, g6, ol, tp, lt, g7, t0, ct, e, tupD_of, sizeLine_eq]
  · have lt : ¬ (k : Int) < (l.names.length : Int) - 1 := by omega
    obtain ⟨R, ρ, e, er⟩ := fin (X := X0) (ys := x3) l0 s0 o0
    obtain ⟨dl, hdl⟩ : ∃ dl, dl = dictD l := ⟨_, rfl⟩
    rw [← hdl] at gw e ⊢
    refine ⟨R, x3, ?_, er, b3.mono (by omega)⟩
    unfold m__law_step_edit runI
    rw [b_step_edit]
    simp [gw, g1, g2, g3, g4, g5, g6, ol, tp, lt, e, tupD_of, sizeLine_eq]
end
end Pm
namespace Pm
open PySem PySem.Spec PyProof.Rows L2 Mr
/-- is the value no names? -/
noncomputable def cnd11 : M Bool := (tOr (tNot (tOf (mL isiD (mCons (mVar 6) (mCons (mC (.opq (.ty "tuple"))) mNil))))) (tOr (tOf (m2 eqD (mVar 6) (mL tupD mNil))) (tOr (tOf (m2 gtD (mL lenD (mCons (mVar 6) mNil)) (mC (.int 3)))) (tOr (tOf (m2 neD (m1 lenSetD (mVar 6)) (mL lenD (mCons (mVar 6) mNil)))) (tOf (m2 (inO "Loop" m_Loop___contains__) (mC (.str (Str.ofString "A"))) (mVar 6)))))))
/-- the rest of the edit, when the value is drawn -/
noncomputable def tn11 : M Fl :=
  (xSeq (xIf (tAnd (tOf (m2 eqD (mVar 6) (mVar 5))) (tOf (mL isiD (mCons (mVar 6) (mCons (mC (.opq (.ty "tuple"))) mNil))))) (xPut (.sl 8) (mCall m__law_other 3 [] (mCons (mVar 1) (mCons (mC (.str (Str.ofString "words"))) (mCons (mVar 5) mNil))))) (xIf cnd11 (xPut (.sl 8) (mC (.str (Str.ofString "word")))) (xPut (.sl 8) (mC (.str (Str.ofString "operation"))))))
  (xSeq (xPut (.sl 7) (mLam m__law_met_error_k13 l1__law_name_edit))
  (xSeq (xIf (tAnd (tNot (tOf (mL isiD (mCons (mVar 8) (mCons (mC (.opq (.ty "str"))) mNil))))) (tAnd (tOf (m1 (isiOD (Str.ofString "Loop")) (mVar 7))) (tOf (m2 (neW "Loop" m_Loop___eq__) (mMeth [(Str.ofString "Loop", m_Loop_renamed)] (Str.ofString "renamed") 2 (mVar 7) (mCons (m2 dgetD (mVar 1) (mC (.str (Str.ofString "words")))) mNil)) (mVar 2))))) (xRet (mL lstD (mCons (mVar 8) (mCons (mC (.str (Str.ofString "else"))) mNil)))) xNx)
  (xRet (mL lstD (mCons (mVar 8) (mCons (mVar 7) mNil)))))))
theorem b_name_edit : b__law_name_edit =
  (xSeq (xPut (.sl 3) (mL lenD (mCons (m2 dgetD (mVar 1) (mC (.str (Str.ofString "words")))) mNil)))
  (xSeq (xPut (.sl 4) (mOfN q1__law_name_edit))
  (xSeq (xPut (.sl 5) (mL tupleD (mCons (mSlice (mIo m__law_dealt 1 0 (mCons (m2 addD (mL listD (mCons (m2 dgetD (mVar 1) (mC (.str (Str.ofString "words")))) mNil)) (mVar 4)) mNil)) mONone (mOSome (mVar 3))) mNil)))
  (xSeq (xPut (.sl 6) (mL lstD (mCons (mVar 5) (mCons (mVar 5) (mCons (mVar 5) (mCons (m2 addD (mVar 5) (mL tupD (mCons (mC (.str (Str.ofString "more"))) mNil))) (mCons (mSlice (mVar 5) mONone (mOSome (m1 negD (mC (.int 1))))) (mCons (m2 addD (mSlice (mVar 5) mONone (mOSome (m1 negD (mC (.int 1))))) (mL tupD (mCons (mC (.str (Str.ofString "A"))) mNil))) (mCons (mL listD (mCons (mVar 5) mNil)) (mCons (m2 mulD (mSlice (mVar 5) mONone (mOSome (mC (.int 1)))) (mC (.int 2))) (mCons (mC .non) mNil)))))))))))
  (xSeq (xPut (.sl 6) (mIo m__law_pick 1 0 (mCons (mVar 6) mNil)))
  tn11))))) := rfl
/-- is a tuple of texts a wrong one? -/
def badW (xs : List Str) : Bool := decide (xs = []) || (decide (3 < xs.length) || (!decide ((uniqS xs).length = xs.length) || xs.contains (Str.ofString "A")))
theorem inA {xs : List Str} : inO "Loop" m_Loop___contains__ (.str (Str.ofString "A")) (strsT xs) = .ok (.bl (xs.contains (Str.ofString "A"))) := by
  show (if okD 12 (.str (Str.ofString "A")) = true ∧ okDs 12 (xs.map D.str) = true then FR.ok (D.bl ((xs.map D.str).any fun y => eqv y (.str (Str.ofString "A")))) else .stuck) = _
  rw [if_pos ⟨by simp, okDs_all fun z hz => by obtain ⟨i, _, rfl⟩ := List.mem_map.mp hz; simp⟩, any_strs]
theorem lenSet_strs {xs : List Str} (h : xs.length < 1000) : lenSetD (strsT xs) = .ok (.int (uniqS xs).length) := by
  show (match strsD (xs.map D.str) with | some ss => if ss.length < 1000 then FR.ok (D.int (uniqS ss).length) else .stuck | none => .stuck) = _
  rw [strsD_map]
  simp only
  rw [if_pos (by omega)]
theorem cond11 {xs : List Str} {z0 z1 z2 z3 z4 z5 z7 z8 z9 : SV} (h : xs.length < 1000) :
    cnd11 [z0, z1, z2, z3, z4, z5, .val (strsT xs), z7, z8, z9] = .ok (badW xs) [z0, z1, z2, z3, z4, z5, .val (strsT xs), z7, z8, z9] := by
  have ea : eqD (strsT xs) (.tup []) = .ok (.bl (decide (xs = []))) := eq_strsT (ys := [])
  have es := lenSet_strs h
  have eA := inA (xs := xs)
  have ne : neD (.int (uniqS xs).length) (.int xs.length) = .ok (.bl (!decide ((uniqS xs).length = xs.length))) := by
    have : neD (.int ((uniqS xs).length : Nat)) (.int (xs.length : Nat)) = .ok (.bl (!decide (((uniqS xs).length : Int) = (xs.length : Int)))) := by simp
    rw [this]
    congr 3
    rw [Bool.eq_iff_iff]
    simp only [decide_eq_true_eq]
    omega
  have g3 : gtD (.int xs.length) (.int 3) = .ok (.bl (decide (3 < xs.length))) := by
    have : gtD (.int (xs.length : Nat)) (.int 3) = .ok (.bl (decide ((3 : Int) < (xs.length : Int)))) := by simp
    rw [this]
    congr 3
    exact propext (by omega)
  unfold badW
  obtain ⟨E, hE⟩ : ∃ E, E = decide (xs = []) := ⟨_, rfl⟩
  obtain ⟨U, hU⟩ : ∃ U, U = decide ((uniqS xs).length = xs.length) := ⟨_, rfl⟩
  obtain ⟨A, hA⟩ : ∃ A, A = xs.contains (Str.ofString "A") := ⟨_, rfl⟩
  obtain ⟨T, hT⟩ : ∃ T, T = decide (3 < xs.length) := ⟨_, rfl⟩
  rw [← hE] at ea ⊢
  rw [← hU] at ne ⊢
  rw [← hA] at eA ⊢
  rw [← hT] at g3 ⊢
  have tp : tupD [] = .ok (.tup []) := rfl
  unfold cnd11
  cases E with
  | true => simp [-op_gtI, tp, ea]
  | false => cases T with
    | true => simp [-op_gtI, tp, ea, g3]
    | false => cases U with
      | false => simp [-op_gtI, -op_neII, tp, ea, g3, es, ne]
      | true => cases A <;> simp [-op_gtI, -op_neII, tp, ea, g3, es, ne, eA]
section
variable {l : Lp}
/-- what is drawn, and what the program says of it -/
theorem tn_bad {x : List D} {d sp : D} {ns : List Str} (h : m_is_names [d] = .ok (.bl false))
    (e1 : eqD d (strsT ns) = .ok (.bl false))
    (e2 : ∀ z0 z1 z2 z3 z4 z5 z7 z8 z9 : SV, cnd11 [z0, z1, z2, z3, z4, z5, .val d, z7, z8, z9] = .ok true [z0, z1, z2, z3, z4, z5, .val d, z7, z8, z9]) :
    ∃ r ρ, tn11 [.own true x, .val (dictD l), .val (lpD l), .val (.int l.names.length), .val sp, .val (strsT ns), .val d, .un, .un, .un] = .ok (.rt r) (.own true x :: ρ) ∧ EditOk r := by
  have rb := rn_bad (l := l) h
  obtain ⟨dl, hdl⟩ : ∃ dl, dl = dictD l := ⟨_, rfl⟩
  rw [← hdl]
  have w1 : ∀ z0 z1 z3 z4 z5 z7 z8 z9 : SV, l1__law_name_edit [z0, z1, .val (lpD l), z3, z4, z5, .val d, z7, z8, z9] = .exc (exE (Str.ofString "InvalidName")) [z0, z1, .val (lpD l), z3, z4, z5, .val d, z7, z8, z9] := fun z0 z1 z3 z4 z5 z7 z8 z9 => by
    have z := ap_methL (m := m_Loop_renamed) (f := Str.ofString "renamed") (k := 2) (fe := mVar 2) (fs := mCons (mVar 6) mNil) (ρ := [z0, z1, .val (lpD l), z3, z4, z5, .val d, z7, z8, z9]) (l := l) (ds := [d]) (by simp) (by simp) rfl
    unfold l1__law_name_edit; rw [z, rb]; rfl
  have is2 := isiS_str (s := Str.ofString "word")
  refine ⟨.lst [.str (Str.ofString "word"), .str (Str.ofString "word")], [.val dl, .val (lpD l), .val (.int l.names.length), .val sp, .val (strsT ns), .val d, .val (.str (Str.ofString "word")), .val (.str (Str.ofString "word")), .un], ?_, .inl ⟨_, rfl⟩⟩
  unfold tn11
  simp [e1, e2, w1, met13_word, is2, lstD_of, sizeLine_eq]
theorem tn_op {x : List D} {sp : D} {xs ns : List Str} (h : m_is_names [strsT xs] = .ok (.bl true)) (hl : xs.length ≠ l.names.length) (hx : xs.length < 1000) (ne : xs ≠ ns) (hw : badW xs = false) :
    ∃ r ρ, tn11 [.own true x, .val (dictD l), .val (lpD l), .val (.int l.names.length), .val sp, .val (strsT ns), .val (strsT xs), .un, .un, .un] = .ok (.rt r) (.own true x :: ρ) ∧ EditOk r := by
  have rb := rn_short h hl
  have e1 : eqD (strsT xs) (strsT ns) = .ok (.bl false) := by rw [eq_strsT]; simp [ne]
  have e2 : ∀ z0 z1 z2 z3 z4 z5 z7 z8 z9 : SV, cnd11 [z0, z1, z2, z3, z4, z5, .val (strsT xs), z7, z8, z9] = .ok false [z0, z1, z2, z3, z4, z5, .val (strsT xs), z7, z8, z9] := fun z0 z1 z2 z3 z4 z5 z7 z8 z9 => by rw [cond11 hx, hw]
  obtain ⟨dl, hdl⟩ : ∃ dl, dl = dictD l := ⟨_, rfl⟩
  rw [← hdl]
  obtain ⟨d, hd⟩ : ∃ d, d = strsT xs := ⟨_, rfl⟩
  rw [← hd] at e1 e2 rb ⊢
  have w1 : ∀ z0 z1 z3 z4 z5 z7 z8 z9 : SV, l1__law_name_edit [z0, z1, .val (lpD l), z3, z4, z5, .val d, z7, z8, z9] = .exc (exE (Str.ofString "InvalidOperation")) [z0, z1, .val (lpD l), z3, z4, z5, .val d, z7, z8, z9] := fun z0 z1 z3 z4 z5 z7 z8 z9 => by
    have z := ap_methL (m := m_Loop_renamed) (f := Str.ofString "renamed") (k := 2) (fe := mVar 2) (fs := mCons (mVar 6) mNil) (ρ := [z0, z1, .val (lpD l), z3, z4, z5, .val d, z7, z8, z9]) (l := l) (ds := [d]) (by simp) (by simp) rfl
    unfold l1__law_name_edit; rw [z, rb]; rfl
  have is2 := isiS_str (s := Str.ofString "operation")
  refine ⟨.lst [.str (Str.ofString "operation"), .str (Str.ofString "operation")], [.val dl, .val (lpD l), .val (.int l.names.length), .val sp, .val (strsT ns), .val d, .val (.str (Str.ofString "operation")), .val (.str (Str.ofString "operation")), .un], ?_, .inl ⟨_, rfl⟩⟩
  unfold tn11
  simp [e1, e2, w1, met13_operation, is2, lstD_of, sizeLine_eq]
theorem tn_ok {x : List D} {sp : D} {ns : List Str} (ok : LpOk l) (hl : ns.length = l.names.length) (nd : ns.Nodup) (nm : ∀ x ∈ ns, NameOk x) :
    ∃ r ρ, tn11 [.own true x, .val (dictD l), .val (lpD l), .val (.int l.names.length), .val sp, .val (strsT ns), .val (strsT ns), .un, .un, .un] = .ok (.rt r) (.own true x :: ρ) ∧ EditOk r := by
  have okn := ok.rename hl nd nm
  have r1 := rn_ok ok okn hl
  have r2 := rn_ok (l := ⟨ns, l.steps, l.tests⟩) (xs := l.names) okn ok hl.symm
  have e1 : eqD (strsT ns) (strsT ns) = .ok (.bl true) := by rw [eq_strsT]; simp
  have ot := e_other (l := l) (xs := ns)
  have gw : dgetD (dictD l) (.str (Str.ofString "words")) = .ok (strsT l.names) := by simp
  have is1 := isiS_lp (l := ⟨ns, l.steps, l.tests⟩)
  have il : isiOD (Str.ofString "Loop") (lpD ⟨ns, l.steps, l.tests⟩) = .ok (.bl true) := isi_lpD
  have r2 : m_Loop_renamed [lpD ⟨ns, l.steps, l.tests⟩, strsT l.names] = .ok (lpD l) := r2
  obtain ⟨dl, hdl⟩ : ∃ dl, dl = dictD l := ⟨_, rfl⟩
  obtain ⟨du, hdu⟩ : ∃ du, du = dictD ⟨ns, l.steps, l.tests⟩ := ⟨_, rfl⟩
  rw [← hdl] at ot gw ⊢
  rw [← hdu] at ot is1
  have w1 : ∀ z0 z1 z3 z4 z5 z7 z8 z9 : SV, l1__law_name_edit [z0, z1, .val (lpD l), z3, z4, z5, .val (strsT ns), z7, z8, z9] = .ok (lpD ⟨ns, l.steps, l.tests⟩) [z0, z1, .val (lpD l), z3, z4, z5, .val (strsT ns), z7, z8, z9] := fun z0 z1 z3 z4 z5 z7 z8 z9 => by
    have z := ap_methL (m := m_Loop_renamed) (f := Str.ofString "renamed") (k := 2) (fe := mVar 2) (fs := mCons (mVar 6) mNil) (ρ := [z0, z1, .val (lpD l), z3, z4, z5, .val (strsT ns), z7, z8, z9]) (l := l) (ds := [strsT ns]) (by simp) (by simp) rfl
    unfold l1__law_name_edit; rw [z, r1]; rfl
  have w2 : ∀ ρ : Ro, mVar 7 ρ = .ok (lpD ⟨ns, l.steps, l.tests⟩) ρ → mVar 1 ρ = .ok dl ρ → mMeth [(Str.ofString "Loop", m_Loop_renamed)] (Str.ofString "renamed") 2 (mVar 7) (mCons (m2 dgetD (mVar 1) (mC (.str (Str.ofString "words")))) mNil) ρ = .ok (lpD l) ρ := fun ρ h1 h2 => by
    have z := ap_methL (m := m_Loop_renamed) (f := Str.ofString "renamed") (k := 2) (fe := mVar 7) (fs := mCons (m2 dgetD (mVar 1) (mC (.str (Str.ofString "words")))) mNil) (ρ := ρ) (l := ⟨ns, l.steps, l.tests⟩) (ds := [strsT l.names]) h1 (by simp [h2, gw]) rfl
    rw [z, r2]; rfl
  obtain ⟨mu, hmu⟩ : ∃ mu, mu = lpD ⟨ns, l.steps, l.tests⟩ := ⟨_, rfl⟩
  refine ⟨.lst [dictD ⟨ns, l.steps, l.tests⟩, lpD ⟨ns, l.steps, l.tests⟩], [.val dl, .val (lpD l), .val (.int l.names.length), .val sp, .val (strsT ns), .val (strsT ns), .val (lpD ⟨ns, l.steps, l.tests⟩), .val (dictD ⟨ns, l.steps, l.tests⟩), .un], ?_, .inr ⟨_, okn, rfl⟩⟩
  rw [← hdu, ← hmu]
  rw [← hmu] at w1 w2 il
  obtain ⟨N, hN⟩ : ∃ N, N = strsT ns := ⟨_, rfl⟩
  have it : isiD [strsT ns, .opq (.ty "tuple")] = .ok (.bl true) := isi_strsT
  rw [← hN] at e1 ot w1 it ⊢
  unfold tn11
  simp [e1, it, ot, w1, met13_ok, is1, il, w2, ne_self, lstD_of, sizeLine_eq]
end
end Pm
namespace Pm
open PySem PySem.Spec PyProof.Rows L2 Mr
theorem nm_s : NameOk (Str.ofString "s") := ⟨by kernel_rfl, by decide +kernel⟩
theorem nm_t : NameOk (Str.ofString "t") := ⟨by kernel_rfl, by decide +kernel⟩
theorem nm_more : NameOk (Str.ofString "more") := ⟨by kernel_rfl, by decide +kernel⟩
theorem no_A {xs : List Str} (h : ∀ x ∈ xs, NameOk x) : xs.contains (Str.ofString "A") = false := by
  have eA : m_is_name [.str (Str.ofString "A")] = .ok (.bl false) := by kernel_rfl
  rw [Bool.eq_false_iff]
  intro z
  have q := (h _ (by simpa using z)).1
  rw [eA] at q
  cases q
def pool : List Str := [Str.ofString "u", Str.ofString "v", Str.ofString "w", Str.ofString "s", Str.ofString "t"]
theorem pool_ok : ∀ x ∈ pool, NameOk x := fun x hx => by
  simp only [pool, List.mem_cons, List.not_mem_nil, or_false] at hx
  rcases hx with rfl | rfl | rfl | rfl | rfl
  · exact nm_u
  · exact nm_v
  · exact nm_w
  · exact nm_s
  · exact nm_t
def spare (l : Lp) : List Str := pool.filter fun x => !l.names.contains x
theorem fm_filter (p : Str → Bool) : ∀ xs : List Str, xs.filterMap (fun x => if p x = true then none else some (D.str x)) = (xs.filter fun x => !p x).map D.str
  | [] => rfl
  | x :: xs => by
    rw [List.filterMap_cons, List.filter_cons, fm_filter p xs]
    cases h : p x <;> simp
section
variable {l : Lp}
theorem q_spare {z0 z2 z3 z4 z5 z6 z7 z8 : SV} {dl : D} (gw : dgetD dl (.str (Str.ofString "words")) = .ok (strsT l.names)) : q1__law_name_edit [z0, .val dl, z2, z3, z4, z5, z6, z7, z8, .un] = .ok ((spare l).map D.str) [z0, .val dl, z2, z3, z4, z5, z6, z7, z8, .un] := by
  have key := lcM_opt (vs := [9]) (t := .sl 9) (c := tOf (m2 (ninO "Loop" m_Loop___contains__) (mVar 9) (m2 dgetD (mVar 1) (mC (.str (Str.ofString "words")))))) (el := e1__law_name_edit) (ρ := [z0, .val dl, z2, z3, z4, z5, z6, z7, z8, .un]) D.str pool (fun x => if l.names.contains x = true then none else some (D.str x)) rfl (by rw [sizeLine_eq]; decide) fun x hx => by
    have e : ninO "Loop" m_Loop___contains__ (.str x) (strsT l.names) = .ok (.bl (!l.names.contains x)) := nin_names
    obtain ⟨B, hB⟩ : ∃ B, B = l.names.contains x := ⟨_, rfl⟩
    rw [← hB] at e ⊢
    cases B <;> simp [turnO, e1__law_name_edit, gw, e]
  rw [fm_filter] at key
  have ol : lstD (pool.map D.str) = .ok (.lst (pool.map D.str)) := lstD_of (by rw [sizeLine_eq]; decide)
  unfold q1__law_name_edit
  unfold spare
  simp only [pool, List.map_cons, List.map_nil] at ol key ⊢
  simp [ol, key]
theorem e_name_edit {xs : List D} {b : Nat} (h : Bowl b xs) (hb : b < 500000) (ok : LpOk l) : ∃ r ys, m__law_name_edit (.own true xs) [dictD l, lpD l] = .ok r (.own true ys) ∧ EditOk r ∧ Bowl (b + 20) ys := by
  have n3 : l.names.length ≤ 3 := ok.n3
  have n1 : 1 ≤ l.names.length := List.length_pos_iff.mpr ok.n0
  have sp5 : (spare l).length ≤ 5 := (List.length_filter_le _ _)
  obtain ⟨ds, x1, g1, p1, b1⟩ := e_dealtL (ds := (l.names ++ spare l).map D.str) h (by simp; omega) (by omega)
  have lall : ((l.names ++ spare l).map D.str).length ≤ 8 := by simp; omega
  obtain ⟨ns, en, ln, dn, okn⟩ := names_of p1 (by
    refine List.nodup_append.mpr ⟨ok.nd, List.Nodup.sublist List.filter_sublist (by decide +kernel : pool.Nodup), fun a ha c hc e => ?_⟩
    subst e
    have := (List.mem_filter.mp hc).2
    simp [ha] at this) (fun x hx => by
    rcases List.mem_append.mp hx with hx | hx
    · exact ok.nm x hx
    · exact pool_ok x (List.mem_filter.mp hx).1) l.names.length n1 (by simp)
  have gw : dgetD (dictD l) (.str (Str.ofString "words")) = .ok (strsT l.names) := by simp
  have a0 : addD (.lst (l.names.map D.str)) (.lst ((spare l).map D.str)) = .ok (.lst ((l.names ++ spare l).map D.str)) := by
    rw [addL (by simp; omega), List.map_append]
  have li : listD [strsT l.names] = .ok (.lst (l.names.map D.str)) := rfl
  have sl : sliceD (.lst ds) none (some (l.names.length : Int)) = .ok (.lst (ns.map .str)) := by
    show FR.ok (D.lst (Mr.cutD ds none (some (l.names.length : Int)))) = _
    rw [cut_take, en]
  have tp : tupleD [.lst (ns.map .str)] = .ok (strsT ns) := rfl
  obtain ⟨s, rs, hns⟩ : ∃ s rs, ns = s :: rs := by
    cases hh : ns with
    | nil => rw [hh] at ln; simp at ln; omega
    | cons a c => exact ⟨a, c, rfl⟩
  have ne0 : ns ≠ [] := by rw [hns]; simp
  -- the values
  have v1 : addD (strsT ns) (.tup [.str (Str.ofString "more")]) = .ok (strsT (ns ++ [Str.ofString "more"])) := by
    show addD (.tup (ns.map D.str)) (.tup [.str (Str.ofString "more")]) = _
    rw [addT (by simp; omega)]; unfold strsT; rw [List.map_append]; rfl
  have v2 : sliceD (strsT ns) none (some (-1)) = .ok (strsT ns.dropLast) := by
    show FR.ok (D.tup (Mr.cutD (ns.map D.str) none (some (-1)))) = _
    rw [cut_init (by simpa using ne0), List.length_map, ← List.map_take, ← List.dropLast_eq_take]; rfl
  have v3 : addD (strsT ns.dropLast) (.tup [.str (Str.ofString "A")]) = .ok (strsT (ns.dropLast ++ [Str.ofString "A"])) := by
    show addD (.tup (ns.dropLast.map D.str)) (.tup [.str (Str.ofString "A")]) = _
    rw [addT (by simp; omega)]; unfold strsT; rw [List.map_append]; rfl
  have v4 : listD [strsT ns] = .ok (.lst (ns.map D.str)) := rfl
  have v5 : sliceD (strsT ns) none (some 1) = .ok (strsT [s]) := by
    show FR.ok (D.tup (Mr.cutD (ns.map D.str) none (some ((1 : Nat) : Int)))) = _
    rw [cut_take, hns]; rfl
  have v6 : mulD (strsT [s]) (.int 2) = .ok (strsT [s, s]) := by kernel_rfl
  obtain ⟨d, x2, hd, g2, b2⟩ := e_pickL (ds := [strsT ns, strsT ns, strsT ns, strsT (ns ++ [Str.ofString "more"]), strsT ns.dropLast, strsT (ns.dropLast ++ [Str.ofString "A"]), .lst (ns.map D.str), strsT [s, s], .non]) b1 (by simp) (by simp) (by omega)
  have dl1 : ∀ x ∈ ns.dropLast, NameOk x := fun x hx => okn x (List.dropLast_subset _ hx)
  have lenD1 : ns.dropLast.length = l.names.length - 1 := by rw [List.length_dropLast, ln]
  have fin : ∃ r ρ, tn11 [.own true x2, .val (dictD l), .val (lpD l), .val (.int l.names.length), .val (.lst ((spare l).map D.str)), .val (strsT ns), .val d, .un, .un, .un] = .ok (.rt r) (.own true x2 :: ρ) ∧ EditOk r := by
    simp only [List.mem_cons, List.not_mem_nil, or_false] at hd
    have good := tn_ok (x := x2) (sp := .lst ((spare l).map D.str)) ok ln dn okn
    rcases hd with rfl | rfl | rfl | rfl | rfl | rfl | rfl | rfl | rfl
    · exact good
    · exact good
    · exact good
    · -- one more
      have lx : (ns ++ [Str.ofString "more"]).length = l.names.length + 1 := by rw [List.length_append, ln]; rfl
      have ne : ns ++ [Str.ofString "more"] ≠ ns := fun z => by
        have := congrArg List.length z
        omega
      have e1 : eqD (strsT (ns ++ [Str.ofString "more"])) (strsT ns) = .ok (.bl false) := by rw [eq_strsT]; simp
      have nmx : ∀ x ∈ ns ++ [Str.ofString "more"], NameOk x := fun x hx => by
        rcases List.mem_append.mp hx with hx | hx
        · exact okn x hx
        · rw [List.mem_singleton.mp hx]; exact nm_more
      have nA := no_A nmx
      by_cases c3 : l.names.length = 3
      · refine tn_bad (names_many (by simp; omega) (by simp; omega)) e1 fun z0 z1 z2 z3 z4 z5 z7 z8 z9 => ?_
        rw [cond11 (by omega)]
        unfold badW
        rw [decide_eq_true (show 3 < (ns ++ [Str.ofString "more"]).length by omega)]
        simp
      · have nv := names_val (xs := ns ++ [Str.ofString "more"]) (by simp) (by omega) nmx
        by_cases cu : (uniqS (ns ++ [Str.ofString "more"])).length = (ns ++ [Str.ofString "more"]).length
        · rw [decide_eq_true cu] at nv
          refine tn_op nv (by omega) (by omega) ne ?_
          unfold badW
          rw [nA, decide_eq_true cu, decide_eq_false (show ¬ 3 < (ns ++ [Str.ofString "more"]).length by omega)]
          simp
        · rw [decide_eq_false cu] at nv
          refine tn_bad nv e1 fun z0 z1 z2 z3 z4 z5 z7 z8 z9 => ?_
          rw [cond11 (by omega)]
          unfold badW
          rw [decide_eq_false cu]
          simp
    · -- one less
      have ne : ns.dropLast ≠ ns := fun z => by
        have := congrArg List.length z
        omega
      have e1 : eqD (strsT ns.dropLast) (strsT ns) = .ok (.bl false) := by rw [eq_strsT, decide_eq_false ne]
      by_cases c1 : l.names.length = 1
      · have e : ns.dropLast = [] := List.eq_nil_of_length_eq_zero (by omega)
        rw [e] at e1 ⊢
        refine tn_bad (by kernel_rfl) e1 fun z0 z1 z2 z3 z4 z5 z7 z8 z9 => ?_
        have := cond11 (xs := []) (z0 := z0) (z1 := z1) (z2 := z2) (z3 := z3) (z4 := z4) (z5 := z5) (z7 := z7) (z8 := z8) (z9 := z9) (by simp)
        rw [this]; rfl
      · have dd : ns.dropLast.Nodup := dn.sublist (List.dropLast_sublist _)
        have nz : ns.dropLast ≠ [] := fun z => by rw [z] at lenD1; simp at lenD1; omega
        have iN := e_is_names nz (by omega) dd dl1
        refine tn_op iN (by omega) (by omega) ne ?_
        unfold badW
        rw [no_A dl1, uniq_nodup _ _ rfl dd, decide_eq_false nz, decide_eq_false (show ¬ 3 < ns.dropLast.length by omega)]
        simp
    · -- a great letter
      have lx : (ns.dropLast ++ [Str.ofString "A"]).length = l.names.length := by rw [List.length_append, lenD1, List.length_singleton]; omega
      have hA : (ns.dropLast ++ [Str.ofString "A"]).contains (Str.ofString "A") = true := by simp
      have ne : ns.dropLast ++ [Str.ofString "A"] ≠ ns := fun z => by
        rw [z, no_A okn] at hA; cases hA
      have e1 : eqD (strsT (ns.dropLast ++ [Str.ofString "A"])) (strsT ns) = .ok (.bl false) := by rw [eq_strsT, decide_eq_false ne]
      refine tn_bad (names_A (by omega) dl1) e1 fun z0 z1 z2 z3 z4 z5 z7 z8 z9 => ?_
      rw [cond11 (by omega)]
      unfold badW
      rw [hA]
      simp
    · -- a list
      have ib : isiD [.lst (ns.map D.str), .opq (.ty "tuple")] = .ok (.bl false) := id rfl
      refine tn_bad (by simp [m_is_names, b_is_names, runF, ib]) ?_ fun z0 z1 z2 z3 z4 z5 z7 z8 z9 => ?_
      · have k1 : okD 12 (.lst (ns.map D.str)) = true := by
          rw [okD_lst]
          exact okDs_all fun z hz => by obtain ⟨i, _, rfl⟩ := List.mem_map.mp hz; simp
        unfold eqD
        rw [if_pos ⟨k1, okD_strs⟩]
        rfl
      · unfold cnd11
        simp [ib]
    · -- a name twice
      have ne : [s, s] ≠ ns := fun z => by
        rw [← z] at dn
        simp at dn
      have e1 : eqD (strsT [s, s]) (strsT ns) = .ok (.bl false) := by rw [eq_strsT, decide_eq_false ne]
      have ns' : NameOk s := okn s (by rw [hns]; exact List.mem_cons_self ..)
      refine tn_bad (names_bad ns' (.tup [.str s, .str s]) (by simp)) e1 fun z0 z1 z2 z3 z4 z5 z7 z8 z9 => ?_
      rw [cond11 (by simp)]
      have u : (uniqS [s, s]).length = 1 := by
        have h1 : hasS [] s = false := rfl
        have h2 : hasS [s] s = true := by simp [hasS]
        have u : uniqS [s, s] = [s] := by simp [uniqS, h1, h2]
        rw [u]; rfl
      unfold badW
      rw [u]
      simp
    · -- nothing
      have ib : isiD [.non, .opq (.ty "tuple")] = .ok (.bl false) := id rfl
      refine tn_bad (by kernel_rfl) ?_ fun z0 z1 z2 z3 z4 z5 z7 z8 z9 => ?_
      · unfold eqD
        rw [if_pos ⟨by rfl, okD_strs⟩]
        rfl
      · unfold cnd11
        simp [ib]
  obtain ⟨r, ρ, e, er⟩ := fin
  have bf := b2.mono (n := _) (show b + ((l.names ++ spare l).map D.str).length + 1 ≤ b + 20 by omega)
  refine ⟨r, x2, ?_, er, bf⟩
  have ol : lstD [strsT ns, strsT ns, strsT ns, strsT (ns ++ [Str.ofString "more"]), strsT ns.dropLast, strsT (ns.dropLast ++ [Str.ofString "A"]), .lst (ns.map D.str), strsT [s, s], .non] = .ok (.lst [strsT ns, strsT ns, strsT ns, strsT (ns ++ [Str.ofString "more"]), strsT ns.dropLast, strsT (ns.dropLast ++ [Str.ofString "A"]), .lst (ns.map D.str), strsT [s, s], .non]) := lstD_of (by rw [sizeLine_eq]; simp)
  obtain ⟨dl, hdl⟩ : ∃ dl, dl = dictD l := ⟨_, rfl⟩
  rw [← hdl] at gw e ⊢
  have qs := fun z0 z2 z3 z4 z5 z6 z7 z8 => q_spare (l := l) (z0 := z0) (z2 := z2) (z3 := z3) (z4 := z4) (z5 := z5) (z6 := z6) (z7 := z7) (z8 := z8) gw
  obtain ⟨SP, hSP⟩ : ∃ SP, SP = (spare l).map D.str := ⟨_, rfl⟩
  obtain ⟨ALL, hALL⟩ : ∃ ALL, ALL = (l.names ++ spare l).map D.str := ⟨_, rfl⟩
  rw [← hSP] at qs e a0
  rw [← hALL] at g1 a0
  obtain ⟨W, hW⟩ : ∃ W, W = strsT ns := ⟨_, rfl⟩
  obtain ⟨W1, hW1⟩ : ∃ W, W = strsT (ns ++ [Str.ofString "more"]) := ⟨_, rfl⟩
  obtain ⟨W2, hW2⟩ : ∃ W, W = strsT ns.dropLast := ⟨_, rfl⟩
  obtain ⟨W3, hW3⟩ : ∃ W, W = strsT (ns.dropLast ++ [Str.ofString "A"]) := ⟨_, rfl⟩
  obtain ⟨W4, hW4⟩ : ∃ W, W = ns.map D.str := ⟨_, rfl⟩
  obtain ⟨W5, hW5⟩ : ∃ W, W = strsT [s, s] := ⟨_, rfl⟩
  obtain ⟨W6, hW6⟩ : ∃ W, W = strsT [s] := ⟨_, rfl⟩
  obtain ⟨W7, hW7⟩ : ∃ W, W = l.names.map D.str := ⟨_, rfl⟩
  simp only [← hW, ← hW1, ← hW2, ← hW3, ← hW4, ← hW5, ← hW6] at *
  rw [← hW7] at li a0
  unfold m__law_name_edit runI
  rw [b_name_edit]
  simp [gw, qs, li, a0, g1, sl, tp, v1, v2, v3, v4, v5, v6, ol, g2, e, tupD_of, sizeLine_eq]
end
end Pm
namespace Pm
open PySem PySem.Spec PyProof.Rows L2 Mr
theorem put_lst2 {i j : Nat} {a b : D} {ρ : Ro} : putT (.tp [.sl i, .sl j]) (.lst [a, b]) ρ = putT (.tp [.sl i, .sl j]) (.tup [a, b]) ρ := by
  simp only [putT]
section
variable {l : Lp} {ad : Str → V}
noncomputable def cs11 (ad : Str → V) : List (V × (SV → List D → IR)) := [(ad "_law_test_edit", m__law_test_edit), (ad "_law_less_edit", m__law_less_edit), (ad "_law_step_edit", m__law_step_edit), (ad "_law_name_edit", m__law_name_edit)]
theorem e_edit {m : SV → List D → IR} (hm : m ∈ (cs11 ad).map (·.2)) {xs : List D} {b : Nat} (h : Bowl b xs) (hb : b < 500000) (ok : LpOk l) : ∃ r ys, m (.own true xs) [dictD l, lpD l] = .ok r (.own true ys) ∧ EditOk r ∧ Bowl (b + 20) ys := by
  simp only [cs11, List.map_cons, List.map_nil, List.mem_cons, List.not_mem_nil, or_false] at hm
  rcases hm with rfl | rfl | rfl | rfl
  · exact e_test_edit h hb ok
  · exact e_less_edit h hb ok
  · exact e_step_edit h hb ok
  · exact e_name_edit h hb ok
def pr11 (p : Lp) : D := .tup [lpD p, dictD p]
def I11 (b : Nat) (j : Nat) (ρ : Ro) : Prop := ∃ (xs : List D) (l : Lp) (kept : List Lp) (v2 v5 v6 v7 : SV), ρ = [.own true xs, .val (lpD l), v2, .val (dictD l), .own false (kept.map pr11), v5, v6, v7, .un] ∧ LpOk l ∧ (∀ p ∈ kept, LpOk p) ∧ kept.length = j ∧
  v2.isIo = false ∧ v5.isIo = false ∧ v6.isIo = false ∧ v7.isIo = false ∧ Bowl (b + 30 * j) xs
theorem turn_right11 {b j : Nat} {ρ : Ro} (hb : b < 400000) (hj : j < 12) (h : I11 b j ρ) : ∃ ρ', turnF (.sl 2) (y1__law_right_k11 ad) ρ (.int (j : Nat)) = .ok .nx ρ' ∧ I11 b (j + 1) ρ' := by
  obtain ⟨xs, l, kept, v2, v5, v6, v7, rfl, ok, okk, lk, i2, i5, i6, i7, bw⟩ := h
  obtain ⟨nm, x1, hnm, g1, b1⟩ := e_pickM (fun n : Str => D.opq (ad n)) ["_law_test_edit", "_law_less_edit", "_law_step_edit", "_law_step_edit", "_law_name_edit"] bw (by simp) (by simp) (by omega)
  have g1 : m__law_pick (.own true xs) [.lst [.opq (ad "_law_test_edit"), .opq (ad "_law_less_edit"), .opq (ad "_law_step_edit"), .opq (ad "_law_step_edit"), .opq (ad "_law_name_edit")]] = .ok (.opq (ad nm)) (.own true x1) := g1
  obtain ⟨m, pm, hm⟩ := pickF_some (cs := cs11 ad) (v := ad nm) (by
    simp only [List.mem_cons, List.not_mem_nil, or_false] at hnm
    rcases hnm with rfl | rfl | rfl | rfl | rfl <;> simp [cs11])
  obtain ⟨r, x2, g2, er, b2⟩ := e_edit hm b1 (by omega) ok
  obtain ⟨v, hv⟩ : ∃ v, v = ad nm := ⟨_, rfl⟩
  rw [← hv] at g1 pm
  have il : ∀ a0 a1 a2 a3 a4 a6 a7 a8 : SV, mIoL [(ad "_law_test_edit", m__law_test_edit), (ad "_law_less_edit", m__law_less_edit), (ad "_law_step_edit", m__law_step_edit), (ad "_law_name_edit", m__law_name_edit)] 2 5 0 (mCons (mVar 3) (mCons (mVar 1) mNil)) [a0, a1, a2, a3, a4, .val (.opq v), a6, a7, a8] = mIo m 2 0 (mCons (mVar 3) (mCons (mVar 1) mNil)) [a0, a1, a2, a3, a4, .val (.opq v), a6, a7, a8] := fun a0 a1 a2 a3 a4 a6 a7 a8 => by
    show (match pickF (cs11 ad) v with
      | some m => mIo m 2 0 (mCons (mVar 3) (mCons (mVar 1) mNil)) [a0, a1, a2, a3, a4, .val (.opq v), a6, a7, a8]
      | none => .stuck) = _
    rw [pm]
  have ol : lstD [.opq (ad "_law_test_edit"), .opq (ad "_law_less_edit"), .opq (ad "_law_step_edit"), .opq (ad "_law_step_edit"), .opq (ad "_law_name_edit")] = .ok (.lst [.opq (ad "_law_test_edit"), .opq (ad "_law_less_edit"), .opq (ad "_law_step_edit"), .opq (ad "_law_step_edit"), .opq (ad "_law_name_edit")]) := lstD_of (by rw [sizeLine_eq]; simp)
  have tp : tupD [lpD l, dictD l] = .ok (pr11 l) := rfl
  have hk : kept.length < 16777216 := by omega
  rcases er with ⟨s, rfl⟩ | ⟨l', ok', rfl⟩
  · have is := isiS_str (s := s)
    have nn : neD (.str s) (.str s) = .ok (.bl false) := op_neS (by simp)
    obtain ⟨dl, hdl⟩ : ∃ dl, dl = dictD l := ⟨_, rfl⟩
    refine ⟨[.own true x2, .val (lpD l), .val (.int j), .val (dictD l), .own false ((kept ++ [l]).map pr11), .val (.opq v), .val (.str s), .val (.str s), .un], ?_, x2, l, kept ++ [l], _, _, _, _, rfl, ok, fun p hp => ?_, by simp [lk], rfl, rfl, rfl, rfl, b2.mono (by omega)⟩
    · rw [← hdl] at g2 tp ⊢
      simp [turnF, y1__law_right_k11, i2, i5, i6, i7, tp, hk, sizeLine_eq, ol, g1, il, g2, put_lst2, is, nn]
    · rcases List.mem_append.mp hp with hp | hp
      · exact okk p hp
      · rw [List.mem_singleton.mp hp]; exact ok
  · have is := isiS_lp (l := l')
    have io : isiOD (Str.ofString "Loop") (lpD l') = .ok (.bl true) := isi_lpD
    have il2 := e_is_loop ok'
    obtain ⟨dl, hdl⟩ : ∃ dl, dl = dictD l := ⟨_, rfl⟩
    obtain ⟨du, hdu⟩ : ∃ du, du = dictD l' := ⟨_, rfl⟩
    obtain ⟨mu, hmu⟩ : ∃ mu, mu = lpD l' := ⟨_, rfl⟩
    refine ⟨[.own true x2, .val (lpD l'), .val (.int j), .val (dictD l'), .own false ((kept ++ [l]).map pr11), .val (.opq v), .val (dictD l'), .val (lpD l'), .un], ?_, x2, l', kept ++ [l], _, _, _, _, rfl, ok', fun p hp => ?_, by simp [lk], rfl, rfl, rfl, rfl, b2.mono (by omega)⟩
    · rw [← hdl] at g2 tp ⊢
      rw [← hdu, ← hmu] at g2
      rw [← hdu] at is
      rw [← hmu] at io
      rw [← hdu, ← hmu] at il2
      rw [← hdu, ← hmu]
      simp [turnF, y1__law_right_k11, i2, i5, i6, i7, tp, hk, sizeLine_eq, ol, g1, il, g2, put_lst2, is, io, il2]
    · rcases List.mem_append.mp hp with hp | hp
      · exact okk p hp
      · rw [List.mem_singleton.mp hp]; exact ok
theorem e_right11 {xs : List D} {b : Nat} (h : Bowl b xs) (hb : b < 300000) : ∃ ys, m__law_right_k11 ad (.own true xs) [] = .ok (.bl true) (.own true ys) ∧ Bowl (b + 1000) ys := by
  obtain ⟨l, x1, e1, ok, b1⟩ := e_wide_loop h (by omega)
  have em := e_made ok
  obtain ⟨ρ', f1, x2, l2, kept, v2, v5, v6, v7, hρ, ok2, okk, lk, i2, i5, i6, i7, bw⟩ := forM_range (t := .sl 2) (body := y1__law_right_k11 ad) (I := I11 (b + 100)) 12 [.own true x1, .val (lpD l), .un, .val (dictD l), .own false [], .un, .un, .un, .un] ⟨x1, l, [], .un, .un, .un, .un, rfl, ok, by simp, rfl, rfl, rfl, rfl, rfl, by simpa using b1⟩ fun j ρ hj hI => turn_right11 (by omega) hj hI
  subst hρ
  have rn : range1D [.int 12] = .ok ((List.range 12).map fun (k : Nat) => D.int k) := rangeN 12 (by decide)
  obtain ⟨L, hL⟩ : ∃ L, L = (List.range 12).map fun (k : Nat) => D.int k := ⟨_, rfl⟩
  rw [← hL] at f1 rn
  have key := lcM_opt (vs := [8]) (t := .sl 8) (c := tNot (tOf (mCall m__law_is_loop 2 [] (mCons (m2 ixD (mVar 8) (mC (.int 0))) (mCons (m2 ixD (mVar 8) (mC (.int 1))) mNil))))) (el := e1__law_right_k11 ad) (ρ := [.own true x2, .val (lpD l2), v2, .val (dictD l2), .val (.lst (kept.map pr11)), v5, v6, v7, .un]) pr11 kept (fun _ => none) rfl (by rw [sizeLine_eq]; omega) fun p hp => by
    have il := e_is_loop (okk p hp)
    have x0 : ixD (pr11 p) (.int 0) = .ok (lpD p) := ixD_tup (k := 0) rfl
    have x1 : ixD (pr11 p) (.int 1) = .ok (dictD p) := ixD_tup (k := 1) rfl
    simp [turnO, x0, x1, il]
  have fm : kept.filterMap (fun _ : Lp => (none : Option D)) = [] := by
    clear key okk lk f1 e1 em bw
    induction kept with
    | nil => rfl
    | cons a c ih => simpa using ih
  rw [fm] at key
  have ee : eqD (.lst []) (.lst []) = .ok (.bl true) := by kernel_rfl
  refine ⟨x2, ?_, bw.mono (by omega)⟩
  obtain ⟨dl, hdl⟩ : ∃ dl, dl = dictD l := ⟨_, rfl⟩
  rw [← hdl] at e1 em f1
  obtain ⟨K, hK⟩ : ∃ K, K = kept.map pr11 := ⟨_, rfl⟩
  rw [← hK] at key f1
  unfold m__law_right_k11 b__law_right_k11 f1__law_right_k11 q1__law_right_k11 runI
  simp [e1, em, lstD_of, sizeLine_eq, xParM, mMV, mMN, mMNil, putMs, rn, f1, key, ee]
end
def So11 (ns : List Int) (_ : Nat) (ρ : Ro) : Prop := ∃ v1 : SV, ρ = [.val (.frz (ns.map .int)), v1] ∧ v1.isIo = false
theorem turn11 {ad : Str → V} {ns : List Int} {k : Nat} {ρ : Ro} (hk : k < 64) (h : So11 ns k ρ) : ∃ ρ', turnF (.sl 1) (y1_law_k11 ad) ρ (.int (k : Nat)) = .ok .nx ρ' ∧ So11 ns (k + 1) ρ' := by
  obtain ⟨v1, rfl, h1⟩ := h
  obtain ⟨xs, e, b0⟩ := e_bowl (ns := ns) hk
  obtain ⟨ys, e2, _⟩ := e_right11 (ad := ad) b0 (by decide)
  refine ⟨[.val (.frz (ns.map .int)), .val (.int (k : Nat))], ?_, _, rfl, rfl⟩
  simp [turnF, y1_law_k11, h1, e, e2, mIoT, mCallN]
theorem plain11 (ad : Str → V) (ns : List Int) (hl : ns.length ≤ 63) : m_law_k11 ad [.frz (ns.map .int)] = .ok (.bl true) := by
  obtain ⟨N, hN, N8⟩ := rounds_of ns.length 6 (by decide)
  obtain ⟨ρ', f, v1, rfl, _⟩ := forM_range (t := .sl 1) (body := y1_law_k11 ad) (I := So11 ns) N [.val (.frz (ns.map .int)), .un] ⟨_, rfl, rfl⟩ fun k ρ hk hI => turn11 (k := k) (by omega) hI
  have rn := rangeN N (by omega)
  obtain ⟨L, hL⟩ : ∃ L, L = (List.range N).map fun (k : Nat) => D.int k := ⟨_, rfl⟩
  rw [← hL] at f rn
  simp at hN
  unfold m_law_k11 b_law_k11 f1_law_k11 runF
  simp only [ap_Seq, ap_For]
  simp [hN, rn]
  rw [f]
  simp
end Pm
open PySem PySem.W PySem.Calls PyProof.Rows
theorem PySem.Challenge.cw_staystarts_k11_whole_edits_of_loops_holds : PySem.Challenge.rw_staystarts_k11_whole_edits_of_loops.Holds := by
  exact K11.holds fun ad ns hl _ => Pm.plain11 ad ns hl
