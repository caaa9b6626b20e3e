import PyProof.Rows.All
import Wide.All
import OpenK.AllK
import Wide.FinOn
import HandS.ForMost
import HandS.ForExc
import HandS.Wide
import HandS.WideMore
import HandS.Zip
import HandS.Defaults
import HandS.HeadHook1
import HandS.Lambda
import KE.KDictKeyed
import HandS.ExcCtx
import HandS.IsInst
import HandS.WideBits
import HandS.TupMul
import KE.DataEq
import HandS.TupAny
import PyProof.FString5
import PyProof.Rows.RuleB_pow
import HandS.NoneIn
import HandS.Head0
import HandS.Head1
import HandS.Head2
import HandS.HeadEnd
import HandS.HeadHook2
import HandS.EndBits
import HandS.NestedK
import KE.KStateDown
import HandS.Property
import KE.GoesEnum
import HandS.Star
import HandS.DictComp
import PyProof.CallFns
import PyProof.ReprText
import PyProof.ReprRoads
import HandS.Strs
import HandS.HeadHook3
import HandS.Style
import PyProof.ExcBaseAll.ValueError
import KE.GoesZip
import HandS.Conv
import HandS.TryMany
import HandS.ExcField
import PyProof.InstNe
import PyProof.CallStr
import PyProof.Rows.Range3
import PyProof.MeetsIn
import HandS.FStr
import HandS.SortKw
import HandS.Iter
import KE.KExcSuper
import KE.KExcPX
import KE.KSuper
import HandS.ExcValue
import PyProof.Rows.FactsExc_KeyError
import HandS.ListItems
import HandS.ExcOwn
import KE.GoesMore
import PyProof.MeetsSeq2
import KE.KStar
import PyProof.FString
import HandS.OwnEq
import HandS.DictEq
import HandS.DeepEq
import HandS.AnyAll
import HandS.IterVal
import HandS.SetFor
import HandS.SortRule
import KE.GoesComp
import PyProof.WalksPairs
import KE.DataMinMax
import ObjForm.LawKit
import KE.DataAny
import KE.KDictList
import HandS.HotCalls
import PyProof.ReprLoop
import PyProof.Rows.RegStrFacts
import PyProof.StrLawsRepr
import PySem.Challenge.RW_staystarts_k28_whole_systems_by_their_ru
set_option Elab.async false
set_option linter.all false
set_option maxRecDepth 100000
set_option maxHeartbeats 4000000
set_option exponentiation.threshold 9000
namespace K28
open PySem PySem.Spec PyProof.Rows L2
abbrev RR : PySem.W.OpenRow := PySem.W.OpenLaw.row PySem.Challenge.rw_staystarts_k28_whole_systems_by_their_ru
abbrev PP : Program := PySem.W.OpenLaw.prog PySem.Challenge.rw_staystarts_k28_whole_systems_by_their_ru
section
open HandSHeadRun PySem.W
abbrev QQ : Program := PySem.W.view RR.prog [43]
abbrev dd : DefRec := HandSHeadRun.topDef RR.prog 43
theorem b1 : (!RR.writes || RR.records.isEmpty) = true := by rfl
theorem b2 : RR.prog.bare := ⟨rfl, rfl, rfl, rfl, rfl, by decide +kernel⟩
theorem b4 : opening RR.prog = plainProg RR.prog.main.scope.names := by kernel_rfl
theorem b5 : ∀ s, fenceModules? RR.prog s = some s := fun s => by kernel_rfl
theorem b6 : defOf QQ RR.name = some (dd, []) := by kernel_rfl
theorem b7 : RR.prog.theDef RR.name = some (dd.params, dd.body, dd.scope) := by kernel_rfl
theorem b8 : kwWritten? dd.params.kwonlyargs dd.params.kw_defaults = some [] := by kernel_rfl
theorem b9 : RR.wellSaid = true := by first | assumption | decide +kernel
theorem b10 : (chainsOk QQ && opensWell RR.prog && (frees RR.toRowW && RR.within.isEmpty)) = true := by decide +kernel
theorem b11 : dd.name = ("law" : PySem.Str) := by kernel_rfl
theorem b12 : dd.params.defaults = [] := by kernel_rfl
end
end K28
namespace Mr
open PySem PySem.Spec PyProof.Rows L2
/-- room, and nothing whose text is being made -/
structure RoomG (k : Nat) (A : Around) : Prop where
  r : Room k A
  g : A.guards = some []
section
variable {k j : Nat} {A : Around}
theorem RoomG.mono (q : RoomG k A) (h : j ≤ k) : RoomG j A := ⟨q.r.mono h, q.g⟩
theorem RoomG.units (q : RoomG k A) : A.units + 64 < cLine := q.r.units
theorem guards_deeper {env : Env} : (A.deeper env).guards = A.guards := by
  cases A; rfl
theorem guards_make {C : Addr} {us : List Value} {kw : List (Str × Value)} : (A.under (.builtin "type.__call__" ⟨.ref C :: us, kw⟩)).guards = A.guards := by
  cases A with
  | mk a b c d e => cases d <;> first | rfl | simp [Around.under]
theorem RoomG.deeper (q : RoomG (k + 1) A) (env : Env) : RoomG k (A.deeper env) := ⟨q.r.deeper env, guards_deeper.trans q.g⟩
theorem RoomG.make (q : RoomG (k + 1) A) (C : Addr) (us : List Value) (kw : List (Str × Value)) : RoomG k (A.under (.builtin "type.__call__" ⟨.ref C :: us, kw⟩)) := ⟨q.r.make C us kw, guards_make.trans q.g⟩
end
/-- the promise of the def at f -/
structure FnG (P : Program) (w : World) (K : PySem.W.Frag) (mg : Str → Option Value) (base : Heap) (k : Nat) (f : Addr) (fd : FuncData) (ps : List Str) (sp : Sp) : Prop where
  len : ∀ vs H Q E, sp vs H Q E → vs.length = ps.length
  run : ∀ (A : Around) (fr : List Env) (s : Shared) (H : Hp) (gv : Args) (us : List Value) (vs : List V) (Q : VK) (E : XK), RoomG k A → Env0 P w K mg base A fr s H → BindsTo s fd gv (ps.zip us) → Vals vs us → sp vs H Q E →
    codeAny (model P w) A (.call (.ref f) gv) (CR (L2N.CX P w) fr P w H s Q E) s
section
variable {P : Program} {w : World} {K : PySem.W.Frag} {mg : Str → Option Value} {base : Heap}
theorem FnG.mono {j k : Nat} {f : Addr} {fd : FuncData} {ps : List Str} {sp : Sp} (F : FnG P w K mg base j f fd ps sp) (h : j ≤ k) : FnG P w K mg base k f fd ps sp :=
  ⟨F.len, fun A fr s H gv us vs Q E q => F.run A fr s H gv us vs Q E (q.mono h)⟩
/-- the code object of the def at f -/
def codV (K : PySem.W.Frag) (f : Addr) : Value := match K.lookup f with
  | some ⟨_, _, .func fd, _⟩ => fd.code
  | _ => .none
/-- a def's promise of its body's -/
theorem fng_of {x qual : Str} {params : Arguments} {body : List Stmt} {scope : Scope} {dvs : List V} {kws : List (Str × V)} {f : Addr} {fd : FuncData} {N ps : List Str} {k : Nat} {sp : Sp} (F : FunD K x qual params body scope dvs kws f fd) (S : FnScope N ps scope)
    (len : ∀ vs H Q E, sp vs H Q E → vs.length = ps.length)
    (hb : ∀ (cdv : Value) (_ : codV K f = cdv) (A : Around) (fr : List Env) (s : Shared) (H : Hp) (vs : List V) (Q : VK) (E : XK), RoomG k (A.deeper (envOfC qual scope s.heap.objs.size f cdv)) → sp vs H Q E →
      ∃ t, PSs (cxOf (L2N.CX P w) P w K mg base N qual scope f cdv A fr s H E) body t ∧ t { nx := fun _ H' => Q .non H', rt := Q } (L2.start N vs) H) : FnG P w K mg base (k + 1) f fd ps sp := by
  obtain ⟨oc, od, dV, kV, doc, pm, an, cdv, ct, osl, rfl, at_f, code_f, _, _⟩ := F.ex
  refine ⟨len, fun A fr s H gv us vs Q E room e0 bind rel hs => ?_⟩
  have hl := len _ _ _ _ hs
  have inK : K.In s.heap := e0.mod.kin.keeps fun b o e => (e0.bs b o e).1
  have nl : s.heap.NoLimit := e0.mod.nolimit.keeps fun b o e => (e0.bs b o e).1
  have kinds : ∀ y ∈ ps.zip us, scope.names.lookup y.1 = some .local ∨ (scope.names.lookup y.1 = some .cell ∧ ((cellsFrom (s.heap.objs.size + 1) scope.names []).lookup y.1).isSome = true) := by
    rintro ⟨n, v⟩ hy
    cases S.par n (List.of_mem_zip hy).1 with
    | inl q => exact .inl q
    | inr q => exact .inr ⟨q, PySem.W.cellsFrom_some _ _ _ (.inl q)⟩
  refine codeAny_call_function room.r.depth (inK _ _ at_f) rfl S.co S.gen rfl (PySem.W.codeRec_of inK code_f) (bind _ _ _ _ (wpAny_newFunctionEnv_cells S.kind kinds fun env he s1 x => ?_))
  subst he
  refine ⟨nl.keeps x.toInCall.keep, codeAny_func ?_⟩
  obtain ⟨t, ht, q⟩ := hb cdv (by unfold codV; rw [at_f]) A fr s H vs Q E (room.deeper _) hs
  have I1 : Inv (cxOf (L2N.CX P w) P w K mg base N qual scope f cdv A fr s H E) [] (L2.start N vs) H s1 := inv_start S room.r.hd e0 hl rel x
  refine wpAny_mono (ht.run [] s1 (L2.start N vs) H _ I1 q) (fun fl s2 h2 => ?_) fun _ _ h => h
  cases fl with
  | ret u =>
    obtain ⟨v, _, H', J, rv, z⟩ := h2
    exact ⟨v, H', J.os, J.bare, J.base, J.hok, rv, z⟩
  | next =>
    obtain ⟨_, H', J, z⟩ := h2
    exact ⟨V.non, H', J.os, J.bare, J.base, J.hok, rfl, z⟩
  | brk => exact h2.choose_spec.choose_spec.2.elim
  | cont => exact h2.choose_spec.choose_spec.2.elim
end
end Mr
namespace Mr
open PySem PySem.Spec PyProof.Rows L2

abbrev St := L2.St
/-- the tables of code objects that lambdas are made with, and what the lambdas are called -/
class Lam where
  T : PySem.W.Frag → List (Addr × Str)
/-- slots whose values the context knows -/
class Pins where
  pv : List (Nat × V)
  pf : Hp
instance (priority := low) pins0 : Pins := ⟨[], fun _ => none⟩
def isTb : HO → Bool
  | .tbl _ => true
  | _ => false
/-- a dict, known to the object -/
def ExO (a : Addr) (o : Obj) : HO := .ext fun h => h.get? a = some o ∧ o.ExactDict
open Classical in
noncomputable def isX : HO → Bool
  | .tbl _ => true
  | .ext φ => !decide (∃ a o, HO.ext φ = ExO a o)
  | _ => false
theorem isX_ex {a : Addr} {o : Obj} : isX (ExO a o) = false := by
  unfold ExO isX
  have : ∃ b u, HO.ext (fun h => h.get? a = some o ∧ o.ExactDict) = ExO b u := ⟨a, o, rfl⟩
  simp [this]
theorem isX_code {c : Addr} {q : Str} : isX (LamX.CodeO c q) = true := by
  unfold LamX.CodeO isX
  simp only [Bool.not_eq_true', decide_eq_false_iff_not]
  rintro ⟨a, o, e⟩
  unfold ExO at e
  injection e with e
  let u : Obj := { cls := .none, data := .fields #[.none, .str q 0] }
  let h : Heap := { objs := (List.replicate (c + 1) u).toArray }
  have g : ∀ b, h.get? b = if b < c + 1 then some u else none := fun b => by
    show (match (List.replicate (c + 1) u).toArray[b]? with
      | some ⟨_, _, .freed, _⟩ => none
      | o => o) = _
    rw [List.getElem?_toArray, List.getElem?_replicate]
    by_cases l : b < c + 1
    · simp only [if_pos l]; rfl
    · simp only [if_neg l]
  have z := congrFun e h
  have y : h.get? a = some o ∧ o.ExactDict := by
    rw [← z]
    exact ⟨u, #[.none, .str q 0], 0, by rw [g]; exact if_pos (Nat.lt_succ_self c), rfl, rfl⟩
  obtain ⟨y1, y2, _⟩ := y
  rw [g] at y1
  split at y1
  · have y1 := Option.some.inj y1
    rw [← y1] at y2; cases y2
  · cases y1
theorem isX_tb {o : HO} (h : isX o = false) : isTb o = false := by
  cases o <;> first | rfl | cases h
/-- nothing is tracked at a, or a table, a code object -/
def Nn (H : Hp) (a : Addr) : Prop := ∀ o, H a = some o → isX o = true
theorem Nn.of {H : Hp} {a : Addr} (h : H a = none) : Nn H a := fun o e => by rw [h] at e; cases e
theorem Nn.no {H : Hp} {a : Addr} {o : HO} (h : Nn H a) (e : H a = some o) (n : isX o = false) : False := by
  have := h o e
  rw [n] at this; cases this
abbrev Ftb (F : Hp) : Prop := ∀ a o, F a = some o → isTb o = false
theorem Ftb.upd {F : Hp} (h : Ftb F) {p : Addr} {o : HO} (ho : isTb o = false) : Ftb (upd F p o) := fun a u e => by
  by_cases z : a = p
  · subst z; rw [upd_same] at e; cases e; exact ho
  · rw [upd_ne z] at e; exact h a u e
/-- what stood in H stands in H' -/
def Sm (H H' : Hp) : Prop := ∀ b o, H b = some o → H' b = some o
inductive D where
  | non
  | bl (b : Bool)
  | int (i : Int)
  | str (x : Str)
  | tup (xs : List D)
  | lst (xs : List D)
  | frz (xs : List D)
  | obj (c : Str) (ns : List Str) (ds : List D)
  | dct (ks : List Key) (ds : List D)
  | opq (v : V)
  | any
instance : Inhabited D := ⟨.non⟩
def isStD : D → Bool
  | .str _ => true
  | _ => false
/-- texts alone, at least one -/
def nmD (ds : List D) : Bool := !ds.isEmpty && ds.all isStD
/-- the object at a has no instance dict -/
def NoD (K : PySem.W.Frag) (H : Hp) (a : Addr) : Prop := (∃ o xs, H a = some (.frz o (.tup xs)) ∧ o.dict = none) ∨ (∃ o, K.lookup a = some o ∧ o.dict = none)
def NmOk (K : PySem.W.Frag) (H : Hp) (a : Addr) (ds : List D) : Prop := nmD ds = true → NoD K H a
theorem NmOk.no {K : PySem.W.Frag} {H : Hp} {a : Addr} {ds : List D} (h : nmD ds = false) : NmOk K H a ds := fun z => by rw [h] at z; cases z
theorem NmOk.nil {K : PySem.W.Frag} {H : Hp} {a : Addr} : NmOk K H a [] := .no rfl

mutual
inductive Rep (K : PySem.W.Frag) (H : Hp) : V → D → Prop where
  | non : Rep K H .non .non
  | bl (b : Bool) : Rep K H (.bl b) (.bl b)
  | int (i : Int) : Rep K H (.int i) (.int i)
  | str (x : Str) : Rep K H (.str x) (.str x)
  | tup {a : Addr} {xs : List V} {ds : List D} : SqT K H a xs → Reps K H xs ds → NmOk K H a ds → Rep K H (.ref a) (.tup ds)
  | lst {a : Addr} {xs : List V} {ds : List D} : H a = some (.lst xs) → Reps K H xs ds → Rep K H (.ref a) (.lst ds)
  | frz {a : Addr} {xs : List V} {ds : List D} : SqL K H a xs → Reps K H xs ds → Rep K H (.ref a) (.frz ds)
  | obj {a dx : Addr} {c : Str} {ns : List Str} {vs : List V} {fs : List (Str × V)} {ds : List D} : H a = some (.ins (He.ga K c) dx fs) → fs = ns.zip vs → ns.length = vs.length → Reps K H vs ds → Rep K H (.ref a) (.obj c ns ds)
  | dct {a : Addr} {ks : List Key} {vs : List V} {ds : List D} : H a = some (.dK (ks.zip vs)) → ks.length = vs.length → Reps K H vs ds → Rep K H (.ref a) (.dct ks ds)
  | opq (v : V) : Rep K H v (.opq v)
  | any (v : V) (h : v ≠ .non) : Rep K H v .any
inductive Reps (K : PySem.W.Frag) (H : Hp) : List V → List D → Prop where
  | nil : Reps K H [] []
  | cons {v : V} {vs : List V} {d : D} {ds : List D} : Rep K H v d → Reps K H vs ds → Reps K H (v :: vs) (d :: ds)
end

theorem Sm.refl {H : Hp} : Sm H H := fun _ _ h => h
theorem Sm.tr {H H' H'' : Hp} (a : Sm H H') (b : Sm H' H'') : Sm H H'' := fun x o h => b x o (a x o h)
theorem Sm.updN {H : Hp} {p : Addr} {o : HO} (h : H p = none) : Sm H (upd H p o) := fun b x e => by
  rw [upd_ne (ne_of_none e h)]; exact e
variable [Lam]
/-- what stood stands, tables apart -/
structure SmT (K : PySem.W.Frag) (H H' : Hp) : Prop where
  k : ∀ b o, H b = some o → isTb o = false → H' b = some o
  t : LamX.Tabs (Lam.T K) H → LamX.Tabs (Lam.T K) H'
theorem Sm.t {K : PySem.W.Frag} {H H' : Hp} (h : Sm H H') : SmT K H H' := ⟨fun b o e _ => h b o e, fun x => x.ext h⟩
theorem SmT.tr {K : PySem.W.Frag} {H H' H'' : Hp} (a : SmT K H H') (b : SmT K H' H'') : SmT K H H'' := ⟨fun x o h n => b.k x o (a.k x o h n) n, fun x => b.t (a.t x)⟩
/-- .. and what is at a -/
structure SmA (K : PySem.W.Frag) (a : Addr) (H H' : Hp) : Prop where
  k : ∀ b o, b ≠ a → H b = some o → isTb o = false → H' b = some o
  t : LamX.Tabs (Lam.T K) H → LamX.Tabs (Lam.T K) H'
theorem tabs_upd {H : Hp} {T : List (Addr × Str)} {a : Addr} {u o : HO} (h : LamX.Tabs T H) (ha : ∀ v, H a = some v → isX v = false) : LamX.Tabs T (upd H a o) := fun p hp => by
  obtain ⟨ps, e1, e2, e3⟩ := h p hp
  have n1 : p.1 ≠ a := fun z => by
    have := ha _ (z ▸ e1)
    cases this
  refine ⟨ps, by rw [upd_ne n1]; exact e1, e2, fun pos cv hc => ?_⟩
  obtain ⟨c, f1, f2⟩ := e3 pos cv hc
  have n2 : c ≠ a := fun z => by
    have := ha _ (z ▸ f2)
    rw [isX_code] at this
    cases this
  exact ⟨c, f1, by rw [upd_ne n2]; exact f2⟩
theorem SmA.upd {K : PySem.W.Frag} {a : Addr} {H : Hp} {u o : HO} (ha : H a = some u) (hu : isX u = false) : SmA K a H (upd H a o) :=
  ⟨fun b w ne h _ => by rw [upd_ne ne]; exact h, fun x => tabs_upd (u := u) x fun v e => by rw [ha] at e; cases e; exact hu⟩
theorem Sm.none {F H : Hp} (s : Sm F H) {p : Addr} (h : H p = none) : F p = none := by
  cases e : F p with
  | none => rfl
  | some o => rw [s p o e] at h; cases h
theorem Rd.mono {H H' : Hp} {a : Addr} {u : HO} (s : Sm H H') (r : Rd H a u) : Rd H' a u := by
  rcases r with r | ⟨o, r⟩
  · exact .inl (s _ _ r)
  · exact .inr ⟨o, s _ _ r⟩
theorem SqLm {K : PySem.W.Frag} {H H' : Hp} {a : Addr} {xs : List V} (s : Sm H H') (r : SqL K H a xs) : SqL K H' a xs := by
  rcases r with r | r
  · exact .inl (Rd.mono s r)
  · exact .inr r
theorem SqTm {K : PySem.W.Frag} {H H' : Hp} {a : Addr} {xs : List V} (s : Sm H H') (r : SqT K H a xs) : SqT K H' a xs := by
  rcases r with r | r
  · exact .inl (Rd.mono s r)
  · exact .inr r
theorem NoD.mono {K : PySem.W.Frag} {H H' : Hp} {a : Addr} (s : Sm H H') (h : NoD K H a) : NoD K H' a := by
  rcases h with ⟨o, u, e, d⟩ | h
  · exact .inl ⟨o, u, s _ _ e, d⟩
  · exact .inr h
theorem NmOk.mono {K : PySem.W.Frag} {H H' : Hp} {a : Addr} {ds : List D} (s : Sm H H') (h : NmOk K H a ds) : NmOk K H' a ds := fun z => (h z).mono s
/-- a tuple that has just been made, and is known -/
theorem NmOk.new {K : PySem.W.Frag} {H : Hp} {a : Addr} {o : Obj} {xs : List V} {ds : List D} (d : o.dict = none) : NmOk K (upd H a (.frz o (.tup xs))) a ds := fun _ => .inl ⟨o, xs, upd_same, d⟩
/-- .. where another object is changed -/
theorem NmOk.off {K : PySem.W.Frag} {F F' : Hp} {a b : Addr} {ds : List D} (hF : ∀ o xs, F a ≠ some (.frz o (.tup xs))) (s : ∀ b o, b ≠ a → F b = some o → F' b = some o) (h : NmOk K F b ds) : NmOk K F' b ds := fun z => by
  rcases h z with ⟨o, u, e, d⟩ | h
  · exact .inl ⟨o, u, s _ _ (fun z => by subst z; exact hF _ _ e) e, d⟩
  · exact .inr h
theorem sqt_new {K : PySem.W.Frag} {H : Hp} {a : Addr} {o : Obj} {xs : List V} : SqT K (upd H a (.frz o (.tup xs))) a xs := .inl (.inr ⟨o, upd_same⟩)
/-- a tuple that a walk made: of texts alone no tuple is told -/
def tupW (ds : List D) : D := if nmD ds = true then .any else .tup ds
theorem tupW_rep {K : PySem.W.Frag} {H : Hp} {T : Addr} {vs : List V} {ds : List D} (h : SqT K H T vs) (r : Reps K H vs ds) : Rep K H (.ref T) (tupW ds) := by
  unfold tupW
  split
  · exact .any _ (by simp)
  · rename_i hn
    exact .tup h r (.no (by simpa using hn))
mutual
theorem Rep.mono {K : PySem.W.Frag} {H H' : Hp} (s : Sm H H') : ∀ {v : V} {d : D}, Rep K H v d → Rep K H' v d
  | _, _, .non => .non
  | _, _, .bl b => .bl b
  | _, _, .int i => .int i
  | _, _, .str x => .str x
  | _, _, .tup h r n => .tup (SqTm s h) (Reps.mono s r) (n.mono s)
  | _, _, .lst h r => .lst (s _ _ h) (Reps.mono s r)
  | _, _, .frz h r => .frz (SqLm s h) (Reps.mono s r)
  | _, _, .obj h e l r => .obj (s _ _ h) e l (Reps.mono s r)
  | _, _, .dct h l r => .dct (s _ _ h) l (Reps.mono s r)
  | _, _, .opq v => .opq v
  | _, _, .any v h => .any v h
theorem Reps.mono {K : PySem.W.Frag} {H H' : Hp} (s : Sm H H') : ∀ {vs : List V} {ds : List D}, Reps K H vs ds → Reps K H' vs ds
  | _, _, .nil => .nil
  | _, _, .cons h r => .cons (Rep.mono s h) (Reps.mono s r)
end
section
variable {K : PySem.W.Frag} {H : Hp}
theorem Reps.length : ∀ {vs : List V} {ds : List D}, Reps K H vs ds → vs.length = ds.length
  | _, _, .nil => rfl
  | _, _, .cons _ r => by simp [Reps.length r]
theorem Reps.get : ∀ {vs : List V} {ds : List D} (i : Nat) {d : D}, Reps K H vs ds → ds[i]? = some d → ∃ v, vs[i]? = some v ∧ Rep K H v d
  | _, _, _, _, .nil, e => by simp at e
  | _, _, 0, _, .cons h _, e => by simp at e; subst e; exact ⟨_, rfl, h⟩
  | _, _, i + 1, _, .cons _ r, e => by
    obtain ⟨v, h1, h2⟩ := Reps.get i r (by simpa using e)
    exact ⟨v, by simpa using h1, h2⟩
theorem Reps.append : ∀ {xs ys : List V} {ds es : List D}, Reps K H xs ds → Reps K H ys es → Reps K H (xs ++ ys) (ds ++ es)
  | _, _, _, _, .nil, s => s
  | _, _, _, _, .cons r t, s => .cons r (Reps.append t s)
theorem Reps.take : ∀ {xs : List V} {ds : List D} (n : Nat), Reps K H xs ds → Reps K H (xs.take n) (ds.take n)
  | _, _, 0, _ => .nil
  | _, _, _ + 1, .nil => .nil
  | _, _, n + 1, .cons r t => .cons r (Reps.take n t)
theorem Reps.drop : ∀ {xs : List V} {ds : List D} (n : Nat), Reps K H xs ds → Reps K H (xs.drop n) (ds.drop n)
  | _, _, 0, r => r
  | _, _, _ + 1, .nil => .nil
  | _, _, n + 1, .cons r t => Reps.drop n t
theorem Reps.set {v : V} {d : D} (r : Rep K H v d) : ∀ {xs : List V} {ds : List D} (i : Nat), Reps K H xs ds → Reps K H (xs.set i v) (ds.set i d)
  | _, _, _, .nil => .nil
  | _, _, 0, .cons _ t => .cons r t
  | _, _, i + 1, .cons q t => .cons q (Reps.set r i t)
theorem Reps.rep {v : V} {d : D} (r : Rep K H v d) : ∀ n : Nat, Reps K H (List.replicate n v) (List.replicate n d)
  | 0 => .nil
  | n + 1 => .cons r (Reps.rep r n)
theorem Reps.rev : ∀ {xs : List V} {ds : List D}, Reps K H xs ds → Reps K H xs.reverse ds.reverse
  | _, _, .nil => .nil
  | _, _, .cons q t => by
    rw [List.reverse_cons, List.reverse_cons]
    exact Reps.append (Reps.rev t) (.cons q .nil)
theorem Reps.ints : ∀ {vs : List V} {ns : List Int}, Reps K H vs (ns.map D.int) → vs = ns.map V.int
  | _, [], .nil => rfl
  | _, n :: ns, .cons h r => by cases h; rw [Reps.ints r]; rfl
theorem Reps.of_ints : ∀ (ns : List Int), Reps K H (ns.map V.int) (ns.map D.int)
  | [] => .nil
  | n :: ns => .cons (.int n) (Reps.of_ints ns)
end

/-- what a slot holds: nothing known; a value that stands still; a list, an instance of one's own (p: a parameter handed in to be changed) -/
inductive SV where
  | un
  | val (d : D)
  | own (p : Bool) (xs : List D)
  | ins (p : Bool) (c : Str) (ns : List Str) (ds : List D)
  | dic (p : Bool) (ks : List Key) (ds : List D)
  /-- a dict whose keys are tuples of tuples of ints, all its values True -/
  | nst (p : Bool) (ks : List D)
  /-- a value that the context knows -/
  | pin
abbrev Ro := List SV
def SV.isOwn : SV → Bool
  | .own _ _ => true | .ins _ _ _ _ => true | .dic _ _ _ => true | .nst _ _ => true | _ => false
def SV.isIo : SV → Bool
  | .own p _ => p | .ins p _ _ _ => p | .dic p _ _ => p | .nst p _ => p | .pin => true | _ => false
def SV.isHd : SV → Bool
  | .own p _ => p | .ins p _ _ _ => p | .dic p _ _ => p | .nst p _ => p | _ => false
def SV.isPin : SV → Bool
  | .pin => true | _ => false
def SV.isFar (sv : SV) : Bool := sv.isOwn || sv.isPin
theorem SV.far_own {sv : SV} (h : sv.isFar = false) : sv.isOwn = false := by
  cases sv <;> first | rfl | cases h
theorem SV.far_io {sv : SV} (h : sv.isFar = false) : sv.isIo = false := by
  cases sv <;> first | rfl | cases h
theorem SV.isHd_io {sv : SV} (h : sv.isHd = true) : sv.isIo = true := by
  cases sv <;> first | exact h | cases h

/-- what stood at the entry; the parameters that may be changed; objects that wait -/
structure Ent where
  H0 : Hp
  F0 : Hp
  io : List (Nat × Addr)
  xt : List (Addr × HO)

/-- a nested key: a tuple of ints and of such -/
def nkD : D → Option NestedKey
  | .tup [.tup a, .tup b] => match nkL a, nkL b with
    | some x, some y => some (.tup [.tup x, .tup y])
    | _, _ => none
  | .tup [.tup a, .bl t, .tup b] => match nkL a, nkL b with
    | some x, some y => some (.tup [.tup x, .num (if t = true then 1 else 0), .tup y])
    | _, _ => none
  | _ => none
where nkL : List D → Option (List NestedKey)
  | [] => some []
  | .int i :: r => (nkL r).map fun l => .num i :: l
  | _ => none
/-- its hash (no text is in it) -/
def hshI : NestedKey → Int
  | .tup [.tup a, .tup b] => reduceHash (Builtin.Tuple.tupleHashOf [hshL a, hshL b])
  | .tup [.tup a, .num t, .tup b] => reduceHash (Builtin.Tuple.tupleHashOf [hshL a, hashInt t, hshL b])
  | _ => 0
where hshL (l : List NestedKey) : Int := reduceHash (Builtin.Tuple.tupleHashOf (l.map fun k => match k with
  | .num i => hashInt i
  | _ => 0))
/-- o is a dict with the keys ks, which stand at vs -/
def NstO (a : Addr) (o : Obj) (vs : List V) (ks : List D) : Prop := (a == sysModules) = false ∧ ks.length ≤ sizeLine ∧ o.ExactDict ∧ ∃ es ep, ∃ xs : List (NestedKey × Addr), o.data = .dict es ep ∧
  es.toList = xs.map (fun x => ⟨hshI x.1, .ref x.2, .bool true⟩) ∧ (xs.map (·.1)).Nodup ∧ vs = xs.map (fun x => V.ref x.2) ∧ ks.map nkD = xs.map fun x => some x.1
def SlotOk (K : PySem.W.Frag) (H F : Hp) (s : Option (Option V)) : SV → Prop
  | .un => True
  | .val d => ∃ v, s = some (some v) ∧ Rep K F v d
  | .own _ xs => ∃ a vs, s = some (some (V.ref a)) ∧ H a = some (.lst vs) ∧ F a = none ∧ Reps K F vs xs
  | .ins _ c ns ds => ∃ a dx vs, s = some (some (V.ref a)) ∧ H a = some (.ins (He.ga K c) dx (ns.zip vs)) ∧ ns.length = vs.length ∧ F a = none ∧ Reps K F vs ds
  | .dic _ ks ds => ∃ a vs, s = some (some (V.ref a)) ∧ H a = some (.dK (ks.zip vs)) ∧ ks.length = vs.length ∧ F a = none ∧ Reps K F vs ds
  | .nst _ ks => ∃ a vs, s = some (some (V.ref a)) ∧ (∃ o, H a = some (ExO a o) ∧ NstO a o vs ks) ∧ ks.length = vs.length ∧ F a = none ∧ Reps K F vs ks
  | .pin => True

section PinS
variable [Pins]
structure Stt (K : PySem.W.Frag) (G : Ent) (σ : St) (H F : Hp) (ρ : Ro) : Prop where
  sub : Sm F H
  ft : Ftb F
  tb : LamX.Tabs (Lam.T K) H
  same : ∀ a o, G.H0 a = some o → (∀ i, (i, a) ∉ G.io) → isTb o = false → H a = some o
  ext : Sm G.F0 F
  new : ∀ a o, F a = some o → G.F0 a = some o ∨ Nn G.H0 a
  len : ρ.length = σ.length
  at_ : ∀ i, SlotOk K H F (σ[i]?) (ρ.getD i .un)
  dis : ∀ i j a, (ρ.getD i .un).isOwn = true → (ρ.getD j .un).isOwn = true → σ[i]? = some (some (V.ref a)) → σ[j]? = some (some (V.ref a)) → i = j
  fresh : ∀ i a, (ρ.getD i .un).isOwn = true → σ[i]? = some (some (V.ref a)) → Nn G.H0 a ∨ (i, a) ∈ G.io
  io : ∀ i a, (i, a) ∈ G.io → σ[i]? = some (some (V.ref a)) ∧ (ρ.getD i .un).isHd = true
  xt : ∀ p ∈ G.xt, H p.1 = some p.2 ∧ F p.1 = none ∧ Nn G.H0 p.1 ∧ ∀ i, (ρ.getD i .un).isOwn = true → σ[i]? ≠ some (some (V.ref p.1))
  xx : ∀ p ∈ G.xt, isX p.2 = false
  xtd : (G.xt.map (·.1)).Nodup
  pin : ∀ i v, (i, v) ∈ Pins.pv → σ[i]? = some (some v) ∧ (ρ.getD i .un).isIo = true
  pf : Sm Pins.pf F

/-- a class by its name: the text's own, a built-in one -/
inductive Cn where
  | own (x : Str)
  | bi (x : String)
def Cn.v (K : PySem.W.Frag) : Cn → Value
  | .own x => .ref (He.ga K x)
  | .bi x => .type x
structure Ex where
  c : Cn
  fs : List (Str × D)
/-- an exception's own dict -/
def ExcAt (K : PySem.W.Frag) (F : Hp) (d : Option Addr) (fs : List (Str × D)) : Prop :=
  (fs = [] ∧ d = none) ∨ ∃ dd vs, d = some dd ∧ F dd = some (.xd ((fs.map (·.1)).zip vs)) ∧ Reps K F vs (fs.map (·.2))

inductive R (α : Type) where
  | ok (a : α) (ρ : Ro)
  | exc (x : Ex) (ρ : Ro)
  | stuck
abbrev M (α : Type) := Ro → R α
def R.bind {α β : Type} (r : R α) (k : α → Ro → R β) : R β := match r with
  | .ok a ρ => k a ρ
  | .exc x ρ => .exc x ρ
  | .stuck => .stuck
/-- what a def or an operation gives -/
inductive FR (α : Type) where
  | ok (a : α)
  | exc (x : Ex)
  | stuck
def FR.lift {α : Type} (r : FR α) (ρ : Ro) : R α := match r with
  | .ok a => .ok a ρ
  | .exc x => .exc x ρ
  | .stuck => .stuck
def FR.bind {α β : Type} (r : FR α) (k : α → FR β) : FR β := match r with
  | .ok a => k a
  | .exc x => .exc x
  | .stuck => .stuck

/-- r is what is wanted: P where it goes through, W of an exception -/
def Good {α : Type} (K : PySem.W.Frag) (G : Ent) (W : WX) (σ : St) (F : Hp) (r : R α) (P : α → Ro → Hp → Hp → Prop) : Prop := match r with
  | .ok a ρ => ∀ H' F', Stt K G σ H' F' ρ → Sm F F' → P a ρ H' F'
  | .exc x ρ => ∀ d H' F', Stt K G σ H' F' ρ → Sm F F' → ExcAt K F' d x.fs → W (x.c.v K) d σ H'
  | .stuck => False
theorem Good.mono {α : Type} {K : PySem.W.Frag} {G : Ent} {W : WX} {σ : St} {F F1 : Hp} {r : R α} {P : α → Ro → Hp → Hp → Prop} (s : Sm F F1) (h : Good K G W σ F r P) : Good K G W σ F1 r P := by
  cases r with
  | ok a ρ => exact fun H' F' S q => h H' F' S (s.tr q)
  | exc x ρ => exact fun d H' F' S q => h d H' F' S (s.tr q)
  | stuck => exact h
theorem Good.bind {α β : Type} {K : PySem.W.Frag} {G : Ent} {W : WX} {σ : St} {F : Hp} {r : R α} {k : α → Ro → R β} {P : α → Ro → Hp → Hp → Prop} {P' : β → Ro → Hp → Hp → Prop}
    (h : Good K G W σ F (r.bind k) P') (f : ∀ a ρ H' F', Stt K G σ H' F' ρ → Sm F F' → Good K G W σ F' (k a ρ) P' → P a ρ H' F') : Good K G W σ F r P := by
  cases r with
  | ok a ρ => exact fun H' F' S q => f a ρ H' F' S q (Good.mono q h)
  | exc x ρ => exact h
  | stuck => exact h

abbrev PD (K : PySem.W.Frag) (Q : VK) : D → Ro → Hp → Hp → Prop := fun d _ H' F' => ∀ v, Rep K F' v d → Q v H'
abbrev PB (Q : Bool → Hp → Prop) : Bool → Ro → Hp → Hp → Prop := fun b _ H' _ => Q b H'
abbrev PL (K : PySem.W.Frag) (Q : List V → Hp → Prop) : List D → Ro → Hp → Hp → Prop := fun ds _ H' F' => ∀ vs, Reps K F' vs ds → Q vs H'

/-- the expression e does what f says -/
def AE (X : Cx) (W : WX) (e : Expr) (f : M D) : Prop := ∃ t, PE X e t ∧ ∀ G σ H F ρ Q, Stt X.K G σ H F ρ → Good X.K G W σ F (f ρ) (PD X.K Q) → t σ H Q
def AT (X : Cx) (W : WX) (e : Expr) (f : M Bool) : Prop := ∃ t, PT X e t ∧ ∀ G σ H F ρ Q, Stt X.K G σ H F ρ → Good X.K G W σ F (f ρ) (PB Q) → t σ H Q
def AW (X : Cx) (W : WX) (e : Expr) (f : M Bool) : Prop := ∃ t, PW X e t ∧ ∀ G σ H F ρ Q, Stt X.K G σ H F ρ → Good X.K G W σ F (f ρ) (PB Q) → t σ H Q
def AA (X : Cx) (W : WX) (es : List Expr) (f : M (List D)) : Prop := ∃ t, PA X es t ∧ ∀ G σ H F ρ Q, Stt X.K G σ H F ρ → Good X.K G W σ F (f ρ) (PL X.K Q) → t σ H Q

section
variable {K : PySem.W.Frag} {G : Ent} {σ : St} {H F H' F' : Hp} {ρ : Ro}
theorem SlotOk.there {s : Option (Option V)} {sv : SV} (q : SlotOk K H F s sv) (ho : sv.isOwn = true) : ∃ a o, s = some (some (V.ref a)) ∧ H a = some o ∧ F a = none ∧ isX o = false := by
  cases sv with
  | un => cases ho
  | val d => cases ho
  | own p xs => obtain ⟨a, vs, e1, e2, e3, _⟩ := q; exact ⟨a, _, e1, e2, e3, rfl⟩
  | ins p C ns ds => obtain ⟨a, dx, vs, e1, e2, _, e3, _⟩ := q; exact ⟨a, _, e1, e2, e3, rfl⟩
  | dic p ks ds => obtain ⟨a, vs, e1, e2, _, e3, _⟩ := q; exact ⟨a, _, e1, e2, e3, rfl⟩
  | nst p ks => obtain ⟨a, vs, e1, ⟨o, e2, _⟩, _, e3, _⟩ := q; exact ⟨a, _, e1, e2, e3, isX_ex⟩
  | pin => cases ho
theorem SV.own_of_io {sv : SV} (h : sv.isHd = true) : sv.isOwn = true := by
  cases sv <;> first | rfl | cases h
/-- a slot as it stands, where the heap has grown -/
theorem SlotOk.grow {s : Option (Option V)} {sv : SV} (q : SlotOk K H F s sv) (h1 : SmT K H H') (h3 : Sm F F') (h4 : ∀ a o, F' a = some o → F a = some o ∨ Nn H a) : SlotOk K H' F' s sv := by
  have nF : ∀ a o, H a = some o → F a = none → isX o = false → F' a = none := fun a o e1 e2 n => by
    cases e : F' a with
    | none => rfl
    | some u =>
      rcases h4 a u e with z | z
      · rw [e2] at z; cases z
      · exact (z.no e1 n).elim
  cases sv with
  | un => trivial
  | val d => obtain ⟨v, e, r⟩ := q; exact ⟨v, e, r.mono h3⟩
  | own p xs => obtain ⟨a, vs, e1, e2, e3, r⟩ := q; exact ⟨a, vs, e1, h1.k _ _ e2 rfl, nF _ _ e2 e3 rfl, r.mono h3⟩
  | ins p C ns ds => obtain ⟨a, dx, vs, e1, e2, e0, e3, r⟩ := q; exact ⟨a, dx, vs, e1, h1.k _ _ e2 rfl, e0, nF _ _ e2 e3 rfl, r.mono h3⟩
  | dic p ks ds => obtain ⟨a, vs, e1, e2, e0, e3, r⟩ := q; exact ⟨a, vs, e1, h1.k _ _ e2 rfl, e0, nF _ _ e2 e3 rfl, r.mono h3⟩
  | nst p ks => obtain ⟨a, vs, e1, ⟨o, e2, z⟩, e0, e3, r⟩ := q; exact ⟨a, vs, e1, ⟨o, h1.k _ _ e2 rfl, z⟩, e0, nF _ _ e2 e3 isX_ex, r.mono h3⟩
  | pin => trivial
theorem Stt.alive (S : Stt K G σ H F ρ) {a : Addr} {o : HO} (h : G.H0 a = some o) (n : isX o = false) : ∃ u, H a = some u ∧ isX u = false := by
  by_cases hi : ∃ i, (i, a) ∈ G.io
  · obtain ⟨i, hi⟩ := hi
    obtain ⟨e1, e2⟩ := S.io i a hi
    obtain ⟨b, u, e3, e4, _, e5⟩ := (S.at_ i).there (SV.own_of_io e2)
    rw [e1] at e3; cases e3
    exact ⟨u, e4, e5⟩
  · exact ⟨o, S.same a o h (fun i z => hi ⟨i, z⟩) (isX_tb n), n⟩
theorem Stt.gone (S : Stt K G σ H F ρ) {a : Addr} (h : Nn H a) : Nn G.H0 a := fun o e => by
  cases n : isX o with
  | true => rfl
  | false => obtain ⟨u, z, m⟩ := S.alive e n; exact (h.no z m).elim
theorem Stt.own_upd (S : Stt K G σ H F ρ) {i : Nat} {a : Addr} {o : HO} (ho : (ρ.getD i .un).isOwn = true) (e1 : σ[i]? = some (some (V.ref a))) : SmA K a H (upd H a o) := by
  obtain ⟨b, u, x1, x2, _, x3⟩ := (S.at_ i).there ho
  rw [e1] at x1; cases x1
  exact .upd x2 x3
/-- the heap has grown, all that was tracked stands -/
theorem Stt.grow (S : Stt K G σ H F ρ) (h1 : SmT K H H') (h2 : Sm F' H') (h3 : Sm F F') (h4 : ∀ a o, F' a = some o → F a = some o ∨ Nn H a) (h5 : Ftb F') : Stt K G σ H' F' ρ := by
  refine ⟨h2, h5, h1.t S.tb, fun a o e n m => h1.k _ _ (S.same a o e n m) m, S.ext.tr h3, fun a o e => (h4 a o e).elim (S.new a o) fun z => .inr (S.gone z), S.len, fun i => (S.at_ i).grow h1 h3 h4, S.dis, S.fresh, S.io, fun p hp => ?_, S.xx, S.xtd, S.pin, S.pf.tr h3⟩
  obtain ⟨e1, e2, e3, e4⟩ := S.xt p hp
  have n := S.xx p hp
  refine ⟨h1.k _ _ e1 (isX_tb n), ?_, e3, e4⟩
  cases e : F' p.1 with
  | none => rfl
  | some u =>
    rcases h4 p.1 u e with z | z
    · rw [e2] at z; cases z
    · exact (z.no e1 n).elim
/-- a new object that stands still -/
theorem Stt.alloc (S : Stt K G σ H F ρ) {p : Addr} {o : HO} (hp : H p = none) (ho : isTb o = false := by rfl) : Stt K G σ (upd H p o) (upd F p o) ρ := by
  have fp : F p = none := S.sub.none hp
  refine S.grow (Sm.updN hp).t (fun a u h => ?_) (Sm.updN fp) (fun a u h => ?_) (S.ft.upd ho)
  · by_cases e : a = p
    · subst e; rw [upd_same] at h ⊢; exact h
    · rw [upd_ne e] at h ⊢; exact S.sub a u h
  · by_cases e : a = p
    · subst e; exact .inr (.of hp)
    · rw [upd_ne e] at h; exact .inl h
theorem Stt.allocF (S : Stt K G σ H F ρ) {p : Addr} {o : HO} (hp : H p = none) : Sm F (upd F p o) := Sm.updN (S.sub.none hp)

theorem getD_set {ρ : Ro} {i j : Nat} {x : SV} : (ρ.set i x).getD j .un = if i = j ∧ j < ρ.length then x else ρ.getD j .un := by
  rw [List.getD_eq_getElem?_getD, List.getD_eq_getElem?_getD, List.getElem?_set]
  by_cases h : i = j
  · subst h
    by_cases l : i < ρ.length
    · simp [l]
    · simp [l]
  · simp [h]
theorem get_setσ {σ : St} {i j : Nat} {x : Option V} : (σ.set i x)[j]? = if i = j ∧ j < σ.length then some x else σ[j]? := by
  rw [List.getElem?_set]
  by_cases h : i = j
  · subst h
    by_cases l : i < σ.length
    · simp [l]
    · simp [l]
  · simp [h]
/-- a slot is stored to -/
theorem Stt.set (S : Stt K G σ H F ρ) {i : Nat} {v : Option V} {sv : SV} (hio : (ρ.getD i .un).isIo = false) (q : SlotOk K H F (some v) sv) (hp : sv.isIo = false)
    (hn : sv.isOwn = true → ∀ a, v = some (V.ref a) → Nn G.H0 a ∧ (∀ j, (ρ.getD j .un).isOwn = true → σ[j]? ≠ some (some (V.ref a))) ∧ ∀ p ∈ G.xt, p.1 ≠ a) : Stt K G (σ.set i v) H F (ρ.set i sv) := by
  have noio : ∀ a, (i, a) ∉ G.io := fun a z => by
    have := SV.isHd_io (S.io i a z).2
    rw [hio] at this; cases this
  refine ⟨S.sub, S.ft, S.tb, S.same, S.ext, S.new, by simp [S.len], fun j => ?_, fun j k a h1 h2 h3 h4 => ?_, fun j a h1 h2 => ?_, fun j a hj => ?_, fun p hp => ?_, S.xx, S.xtd, fun j a hj => ?_, S.pf⟩
  · rw [getD_set, get_setσ, S.len]
    by_cases c : i = j ∧ j < σ.length
    · rw [if_pos c, if_pos c]; exact q
    · rw [if_neg c, if_neg c]; exact S.at_ j
  · rw [getD_set, S.len] at h1 h2
    rw [get_setσ] at h3 h4
    by_cases c : i = j ∧ j < σ.length
    · rw [if_pos c] at h1 h3
      by_cases c' : i = k ∧ k < σ.length
      · exact c.1.symm.trans c'.1
      · rw [if_neg c'] at h2 h4
        exact absurd h4 ((hn h1 a (Option.some.inj h3)).2.1 k h2)
    · rw [if_neg c] at h1 h3
      by_cases c' : i = k ∧ k < σ.length
      · rw [if_pos c'] at h2 h4
        exact absurd h3 ((hn h2 a (Option.some.inj h4)).2.1 j h1)
      · rw [if_neg c'] at h2 h4
        exact S.dis j k a h1 h2 h3 h4
  · rw [getD_set, S.len] at h1
    rw [get_setσ] at h2
    by_cases c : i = j ∧ j < σ.length
    · rw [if_pos c] at h1 h2
      exact .inl (hn h1 a (Option.some.inj h2)).1
    · rw [if_neg c] at h1 h2
      exact S.fresh j a h1 h2
  · have ne : i ≠ j := fun e => noio a (e ▸ hj)
    obtain ⟨e1, e2⟩ := S.io j a hj
    rw [getD_set, get_setσ, if_neg (fun c => ne c.1), if_neg (fun c => ne c.1)]
    exact ⟨e1, e2⟩
  · obtain ⟨e1, e2, e3, e4⟩ := S.xt p hp
    refine ⟨e1, e2, e3, fun j h1 h2 => ?_⟩
    rw [getD_set, S.len] at h1
    rw [get_setσ] at h2
    by_cases c : i = j ∧ j < σ.length
    · rw [if_pos c] at h1 h2
      exact (hn h1 p.1 (Option.some.inj h2)).2.2 p hp rfl
    · rw [if_neg c] at h1 h2
      exact e4 j h1 h2
  · obtain ⟨e1, e2⟩ := S.pin j a hj
    have ne : i ≠ j := fun e => by subst e; rw [e2] at hio; cases hio
    rw [getD_set, get_setσ, if_neg (fun c => ne c.1), if_neg (fun c => ne c.1)]
    exact ⟨e1, e2⟩
theorem Stt.setVal (S : Stt K G σ H F ρ) {i : Nat} {v : V} {d : D} (hio : (ρ.getD i .un).isIo = false) (r : Rep K F v d) : Stt K G (σ.set i (some v)) H F (ρ.set i (.val d)) :=
  S.set hio ⟨v, rfl, r⟩ rfl fun h => by cases h
/-- a slot is forgotten (its value may be any) -/
theorem Stt.drop (S : Stt K G σ H F ρ) {i : Nat} {v : Option V} (hio : (ρ.getD i .un).isIo = false) : Stt K G (σ.set i v) H F (ρ.set i .un) :=
  S.set hio trivial rfl fun h => by cases h
/-- a list of one's own is let go: it stands still from now on -/
theorem Stt.freezeG (S : Stt K G σ H F ρ) {i : Nat} {a : Addr} {o : HO} {dv : D} (own : (ρ.getD i .un).isOwn = true) (hio : (ρ.getD i .un).isIo = false) (e1 : σ[i]? = some (some (V.ref a))) (e2 : H a = some o) (e3 : F a = none) (rl : Rep K (upd F a o) (.ref a) dv) (eo : isTb o = false := by rfl) :
    Stt K G σ H (upd F a o) (ρ.set i (.val dv)) := by
  have il : i < ρ.length := by
    rw [S.len]
    exact (List.getElem?_eq_some_iff.mp e1).1
  have sF : Sm F (upd F a o) := Sm.updN e3
  have noio : ∀ a, (i, a) ∉ G.io := fun a z => by
    have := SV.isHd_io (S.io i a z).2
    rw [hio] at this; cases this
  have h0 : Nn G.H0 a := (S.fresh i a own e1).elim id fun z => absurd z (noio a)
  have other : ∀ j b, i ≠ j → (ρ.getD j .un).isOwn = true → σ[j]? = some (some (V.ref b)) → b ≠ a := fun j b ne o e z => ne (S.dis i j a own o e1 (z ▸ e))
  refine ⟨fun b u h => ?_, S.ft.upd eo, S.tb, S.same, S.ext.tr sF, fun b u h => ?_, by simp [S.len], fun j => ?_, fun j k b h1 h2 => ?_, fun j b h1 h2 => ?_, fun j b hj => ?_, fun p hp => ?_, S.xx, S.xtd, fun j b hj => ?_, S.pf.tr sF⟩
  · by_cases e : b = a
    · subst e; rw [upd_same] at h; cases h; exact e2
    · rw [upd_ne e] at h; exact S.sub b u h
  · by_cases e : b = a
    · subst e; exact .inr h0
    · rw [upd_ne e] at h; exact S.new b u h
  · rw [getD_set]
    by_cases c : i = j ∧ j < ρ.length
    · rw [if_pos c, ← c.1]; exact ⟨_, e1, rl⟩
    · rw [if_neg c]
      have ne : i ≠ j := fun e => c ⟨e, e ▸ il⟩
      have q := S.at_ j
      cases hs : ρ.getD j .un with
      | un => trivial
      | val d => rw [hs] at q; obtain ⟨v, e, r⟩ := q; exact ⟨v, e, r.mono sF⟩
      | own p ys =>
        have o := fun b => other j b ne
        rw [hs] at q o
        obtain ⟨b, ws, f1, f2, f3, r'⟩ := q
        exact ⟨b, ws, f1, f2, by rw [upd_ne (o b rfl f1)]; exact f3, r'.mono sF⟩
      | ins p C ns ds =>
        have o := fun b => other j b ne
        rw [hs] at q o
        obtain ⟨b, dx, ws, f1, f2, f0, f3, r'⟩ := q
        exact ⟨b, dx, ws, f1, f2, f0, by rw [upd_ne (o b rfl f1)]; exact f3, r'.mono sF⟩
      | dic p ks ds =>
        have o := fun b => other j b ne
        rw [hs] at q o
        obtain ⟨b, ws, f1, f2, f0, f3, r'⟩ := q
        exact ⟨b, ws, f1, f2, f0, by rw [upd_ne (o b rfl f1)]; exact f3, r'.mono sF⟩
      | nst p ds =>
        have o := fun b => other j b ne
        rw [hs] at q o
        obtain ⟨b, ws, f1, ⟨o2, f2, fz⟩, f0, f3, r'⟩ := q
        exact ⟨b, ws, f1, ⟨o2, f2, fz⟩, f0, by rw [upd_ne (o b rfl f1)]; exact f3, r'.mono sF⟩
      | pin => trivial
  · rw [getD_set] at h1 h2
    by_cases c : i = j ∧ j < ρ.length
    · rw [if_pos c] at h1; cases h1
    · rw [if_neg c] at h1
      by_cases c' : i = k ∧ k < ρ.length
      · rw [if_pos c'] at h2; cases h2
      · rw [if_neg c'] at h2; exact S.dis j k b h1 h2
  · rw [getD_set] at h1
    by_cases c : i = j ∧ j < ρ.length
    · rw [if_pos c] at h1; cases h1
    · rw [if_neg c] at h1; exact S.fresh j b h1 h2
  · have ne : i ≠ j := fun e => noio b (e ▸ hj)
    obtain ⟨e1, e2⟩ := S.io j b hj
    rw [getD_set, if_neg (fun c => ne c.1)]
    exact ⟨e1, e2⟩
  · obtain ⟨f1, f2, f3, f4⟩ := S.xt p hp
    have pa : p.1 ≠ a := fun e => f4 i own (e ▸ e1)
    refine ⟨f1, by rw [upd_ne pa]; exact f2, f3, fun j h1 h2 => ?_⟩
    rw [getD_set] at h1
    by_cases c : i = j ∧ j < ρ.length
    · rw [if_pos c] at h1; cases h1
    · rw [if_neg c] at h1; exact f4 j h1 h2
  · obtain ⟨e1, e2⟩ := S.pin j b hj
    have ne : i ≠ j := fun e => by subst e; rw [e2] at hio; cases hio
    rw [getD_set, if_neg (fun c => ne c.1)]
    exact ⟨e1, e2⟩
theorem Stt.freezeX (S : Stt K G σ H F ρ) {i : Nat} {xs : List D} (hi : ρ.getD i .un = .own false xs) : ∃ a vs, σ[i]? = some (some (V.ref a)) ∧ H a = some (.lst vs) ∧ F a = none ∧ Reps K F vs xs ∧ Stt K G σ H (upd F a (.lst vs)) (ρ.set i (.val (.lst xs))) ∧ Sm F (upd F a (.lst vs)) ∧ Rep K (upd F a (.lst vs)) (.ref a) (.lst xs) := by
  have q := S.at_ i
  rw [hi] at q
  obtain ⟨a, vs, e1, e2, e3, r⟩ := q
  have rl : Rep K (upd F a (.lst vs)) (.ref a) (.lst xs) := .lst upd_same (r.mono (Sm.updN e3))
  exact ⟨a, vs, e1, e2, e3, r, S.freezeG (by rw [hi]; rfl) (by rw [hi]; rfl) e1 e2 e3 rl, Sm.updN e3, rl⟩
theorem Stt.freezeD (S : Stt K G σ H F ρ) {i : Nat} {ks : List Key} {xs : List D} (hi : ρ.getD i .un = .dic false ks xs) : ∃ a F', σ[i]? = some (some (V.ref a)) ∧ Stt K G σ H F' (ρ.set i (.val (.dct ks xs))) ∧ Sm F F' ∧ Rep K F' (.ref a) (.dct ks xs) := by
  have q := S.at_ i
  rw [hi] at q
  obtain ⟨a, vs, e1, e2, e0, e3, r⟩ := q
  have rl : Rep K (upd F a (.dK (ks.zip vs))) (.ref a) (.dct ks xs) := .dct upd_same e0 (r.mono (Sm.updN e3))
  exact ⟨a, _, e1, S.freezeG (by rw [hi]; rfl) (by rw [hi]; rfl) e1 e2 e3 rl, Sm.updN e3, rl⟩
theorem Stt.freeze (S : Stt K G σ H F ρ) {i : Nat} {xs : List D} (hi : ρ.getD i .un = .own false xs) : ∃ a F', σ[i]? = some (some (V.ref a)) ∧ Stt K G σ H F' (ρ.set i (.val (.lst xs))) ∧ Sm F F' ∧ Rep K F' (.ref a) (.lst xs) :=
  let ⟨a, vs, e1, _, _, _, s, f, r⟩ := S.freezeX hi
  ⟨a, _, e1, s, f, r⟩
/-- what is one's own at slot i is changed in place (by oneself or by a callee); the heap may have grown beside -/
theorem Stt.change (S : Stt K G σ H F ρ) {i : Nat} {a : Addr} {sv : SV} (ho : (ρ.getD i .un).isOwn = true) (e1 : σ[i]? = some (some (V.ref a)))
    (h1 : SmA K a H H') (h2 : Sm F' H') (h3 : Sm F F') (h4 : ∀ b o, F' b = some o → F b = some o ∨ Nn H b) (h5 : Ftb F')
    (q : SlotOk K H' F' (some (some (V.ref a))) sv) (hso : sv.isOwn = true) (hsi : sv.isHd = (ρ.getD i .un).isHd) : Stt K G σ H' F' (ρ.set i sv) := by
  have il : i < ρ.length := by
    rw [S.len]
    exact (List.getElem?_eq_some_iff.mp e1).1
  obtain ⟨a', oa, ea, ha, fa, hx⟩ := (S.at_ i).there ho
  rw [e1] at ea; cases ea
  have other : ∀ j b, i ≠ j → (ρ.getD j .un).isOwn = true → σ[j]? = some (some (V.ref b)) → b ≠ a := fun j b ne o e z => ne (S.dis i j a ho o e1 (z ▸ e))
  have nF : ∀ b o, H b = some o → F b = none → isX o = false → F' b = none := fun b o e1 e2 n => by
    cases e : F' b with
    | none => rfl
    | some u =>
      rcases h4 b u e with z | z
      · rw [e2] at z; cases z
      · exact (z.no e1 n).elim
  refine ⟨h2, h5, h1.t S.tb, fun b o e n m => ?_, S.ext.tr h3, fun b o e => (h4 b o e).elim (S.new b o) fun z => .inr (S.gone z), by simp [S.len], fun j => ?_, fun j k b k1 k2 => ?_, fun j b k1 k2 => ?_, fun j b hj => ?_, fun p hp => ?_, S.xx, S.xtd, fun j b hj => ?_, S.pf.tr h3⟩
  · by_cases eb : b = a
    · subst eb
      rcases S.fresh i b ho e1 with z | z
      · have q := S.same b o e n m
        rw [ha] at q; cases q
        exact (z.no e hx).elim
      · exact absurd z (n i)
    · exact h1.k b o eb (S.same b o e n m) m
  · rw [getD_set]
    by_cases c : i = j ∧ j < ρ.length
    · rw [if_pos c, ← c.1, e1]; exact q
    · rw [if_neg c]
      have ne : i ≠ j := fun e => c ⟨e, e ▸ il⟩
      have q := S.at_ j
      cases hs : ρ.getD j .un with
      | un => trivial
      | val d => rw [hs] at q; obtain ⟨v, e, r⟩ := q; exact ⟨v, e, r.mono h3⟩
      | own p ys =>
        have o := fun b => other j b ne
        rw [hs] at q o
        obtain ⟨b, ws, f1, f2, f3, r'⟩ := q
        exact ⟨b, ws, f1, h1.k _ _ (o b rfl f1) f2 rfl, nF _ _ f2 f3 rfl, r'.mono h3⟩
      | ins p C ns ds =>
        have o := fun b => other j b ne
        rw [hs] at q o
        obtain ⟨b, dx, ws, f1, f2, f0, f3, r'⟩ := q
        exact ⟨b, dx, ws, f1, h1.k _ _ (o b rfl f1) f2 rfl, f0, nF _ _ f2 f3 rfl, r'.mono h3⟩
      | dic p ks ds =>
        have o := fun b => other j b ne
        rw [hs] at q o
        obtain ⟨b, ws, f1, f2, f0, f3, r'⟩ := q
        exact ⟨b, ws, f1, h1.k _ _ (o b rfl f1) f2 rfl, f0, nF _ _ f2 f3 rfl, r'.mono h3⟩
      | nst p ds =>
        have o := fun b => other j b ne
        rw [hs] at q o
        obtain ⟨b, ws, f1, ⟨o2, f2, fz⟩, f0, f3, r'⟩ := q
        exact ⟨b, ws, f1, ⟨o2, h1.k _ _ (o b rfl f1) f2 rfl, fz⟩, f0, nF _ _ f2 f3 isX_ex, r'.mono h3⟩
      | pin => trivial
  · rw [getD_set] at k1 k2
    have p1 : (ρ.getD j .un).isOwn = true := by
      by_cases c : i = j ∧ j < ρ.length
      · rw [← c.1]; exact ho
      · rw [if_neg c] at k1; exact k1
    have p2 : (ρ.getD k .un).isOwn = true := by
      by_cases c : i = k ∧ k < ρ.length
      · rw [← c.1]; exact ho
      · rw [if_neg c] at k2; exact k2
    exact S.dis j k b p1 p2
  · have p1 : (ρ.getD j .un).isOwn = true := by
      rw [getD_set] at k1
      by_cases c : i = j ∧ j < ρ.length
      · rw [← c.1]; exact ho
      · rw [if_neg c] at k1; exact k1
    exact S.fresh j b p1 k2
  · obtain ⟨f1, f2⟩ := S.io j b hj
    refine ⟨f1, ?_⟩
    rw [getD_set]
    by_cases c : i = j ∧ j < ρ.length
    · rw [if_pos c, hsi, c.1]; exact f2
    · rw [if_neg c]; exact f2
  · obtain ⟨f1, f2, f3, f4⟩ := S.xt p hp
    have pa : p.1 ≠ a := fun e => f4 i ho (e ▸ e1)
    refine ⟨h1.k _ _ pa f1 (isX_tb (S.xx p hp)), nF _ _ f1 f2 (S.xx p hp), f3, fun j k1 => ?_⟩
    have p1 : (ρ.getD j .un).isOwn = true := by
      rw [getD_set] at k1
      by_cases c : i = j ∧ j < ρ.length
      · rw [← c.1]; exact ho
      · rw [if_neg c] at k1; exact k1
    exact f4 j p1
  · obtain ⟨x1, x2⟩ := S.pin j b hj
    refine ⟨x1, ?_⟩
    rw [getD_set]
    by_cases c : i = j ∧ j < ρ.length
    · rw [if_pos c]
      have own_hd : ∀ {s : SV}, s.isOwn = true → s.isIo = s.isHd := fun {s} h => by cases s <;> first | rfl | cases h
      rw [own_hd hso, hsi, ← own_hd ho, c.1]; exact x2
    · rw [if_neg c]; exact x2
end

section
variable {K : PySem.W.Frag} {H0 F0 : Hp} {io : List (Nat × Addr)} {xt : List (Addr × HO)} {σ : St} {H F : Hp} {ρ : Ro}
/-- a new object that waits -/
theorem Stt.xtNew (S : Stt K ⟨H0, F0, io, xt⟩ σ H F ρ) {a : Addr} {o : HO} (ha : H a = none) (ho : isX o = false := by rfl) : Stt K ⟨H0, F0, io, (a, o) :: xt⟩ σ (upd H a o) F ρ := by
  have fa := S.sub.none ha
  have S1 : Stt K ⟨H0, F0, io, xt⟩ σ (upd H a o) F ρ := S.grow (Sm.updN ha).t (S.sub.tr (Sm.updN ha)) Sm.refl (fun _ _ e => .inl e) S.ft
  refine ⟨S1.sub, S1.ft, S1.tb, S1.same, S1.ext, S1.new, S1.len, S1.at_, S1.dis, S1.fresh, S1.io, fun p hp => ?_, fun p hp => ?_, ?_, S1.pin, S1.pf⟩
  · rcases List.mem_cons.mp hp with rfl | hp
    · refine ⟨upd_same, fa, S.gone (.of ha), fun i h1 h2 => ?_⟩
      obtain ⟨b, u, e1, e2, _⟩ := (S.at_ i).there h1
      rw [h2] at e1; cases e1
      rw [ha] at e2; cases e2
    · exact S1.xt p hp
  · rcases List.mem_cons.mp hp with rfl | hp
    · exact ho
    · exact S.xx p hp
  · refine List.nodup_cons.mpr ⟨fun hm => ?_, S.xtd⟩
    obtain ⟨p, hp, e⟩ := List.mem_map.mp hm
    have := (S.xt p hp).1
    rw [e, ha] at this; cases this
/-- an object that has come, of one's own -/
theorem Stt.xtAdd {H1 F1 : Hp} (S : Stt K ⟨H0, F0, io, xt⟩ σ H1 F1 ρ) {a : Addr} {o : HO} (h1 : SmT K H1 H) (h2 : Sm F H) (h3 : Sm F1 F) (h4 : ∀ b u, F b = some u → F1 b = some u ∨ Nn H1 b) (h5 : Ftb F) (ha : H a = some o) (fa : F a = none) (na : Nn H1 a) (ho : isX o = false := by rfl) : Stt K ⟨H0, F0, io, (a, o) :: xt⟩ σ H F ρ := by
  have S1 := S.grow h1 h2 h3 h4 h5
  refine ⟨S1.sub, S1.ft, S1.tb, S1.same, S1.ext, S1.new, S1.len, S1.at_, S1.dis, S1.fresh, S1.io, fun p hp => ?_, fun p hp => ?_, ?_, S1.pin, S1.pf⟩
  · rcases List.mem_cons.mp hp with rfl | hp
    · refine ⟨ha, fa, S.gone na, fun i h1 h2 => ?_⟩
      obtain ⟨b, u, e1, e2, _, e5⟩ := (S.at_ i).there h1
      rw [h2] at e1; cases e1
      exact na.no e2 e5
    · exact S1.xt p hp
  · rcases List.mem_cons.mp hp with rfl | hp
    · exact ho
    · exact S.xx p hp
  · refine List.nodup_cons.mpr ⟨fun hm => ?_, S.xtd⟩
    obtain ⟨p, hp, e⟩ := List.mem_map.mp hm
    have := (S.xt p hp).1
    rw [e] at this
    exact na.no this (S.xx p hp)
/-- it is changed -/
theorem Stt.xtUpd {a : Addr} {o o' : HO} (S : Stt K ⟨H0, F0, io, (a, o) :: xt⟩ σ H F ρ) (ho : isX o' = false := by rfl) : Stt K ⟨H0, F0, io, (a, o') :: xt⟩ σ (upd H a o') F ρ := by
  obtain ⟨e1, e2, e3, e4⟩ := S.xt (a, o) (List.mem_cons_self ..)
  have nd := List.nodup_cons.mp S.xtd
  have oth : ∀ i, (ρ.getD i .un).isOwn = true → ∀ b, σ[i]? = some (some (V.ref b)) → b ≠ a := fun i h b hb e => e4 i h (e ▸ hb)
  refine ⟨fun b u h => ?_, S.ft, tabs_upd (u := o) S.tb (fun v e => by rw [e1] at e; cases e; exact S.xx _ (List.mem_cons_self ..)), fun b u h n m => ?_, S.ext, S.new, S.len, fun i => ?_, S.dis, S.fresh, S.io, fun p hp => ?_, fun p hp => ?_, S.xtd, S.pin, S.pf⟩
  · rw [upd_ne (fun e => by subst e; rw [e2] at h; cases h)]; exact S.sub b u h
  · rw [upd_ne (fun e => by subst e; have q := S.same b u h n m; rw [e1] at q; cases q; exact e3.no h (S.xx _ (List.mem_cons_self ..)))]; exact S.same b u h n m
  · have q := S.at_ i
    have ot := oth i
    cases hs : ρ.getD i .un with
    | un => trivial
    | val d => rw [hs] at q; exact q
    | own p ys =>
      rw [hs] at q ot
      obtain ⟨b, ws, f1, f2, f3, r⟩ := q
      exact ⟨b, ws, f1, by rw [upd_ne (ot rfl b f1)]; exact f2, f3, r⟩
    | ins p C ns ds =>
      rw [hs] at q ot
      obtain ⟨b, dx, ws, f1, f2, f0, f3, r⟩ := q
      exact ⟨b, dx, ws, f1, by rw [upd_ne (ot rfl b f1)]; exact f2, f0, f3, r⟩
    | dic p ks ds =>
      rw [hs] at q ot
      obtain ⟨b, ws, f1, f2, f0, f3, r⟩ := q
      exact ⟨b, ws, f1, by rw [upd_ne (ot rfl b f1)]; exact f2, f0, f3, r⟩
    | nst p ds =>
      rw [hs] at q ot
      obtain ⟨b, ws, f1, ⟨o2, f2, fz⟩, f0, f3, r⟩ := q
      exact ⟨b, ws, f1, ⟨o2, by rw [upd_ne (ot rfl b f1)]; exact f2, fz⟩, f0, f3, r⟩
    | pin => trivial
  · rcases List.mem_cons.mp hp with rfl | hp
    · exact ⟨upd_same, e2, e3, e4⟩
    · obtain ⟨f1, f2, f3, f4⟩ := S.xt p (List.mem_cons_of_mem _ hp)
      have ne : p.1 ≠ a := fun e => nd.1 (List.mem_map.mpr ⟨p, hp, e⟩)
      exact ⟨by rw [upd_ne ne]; exact f1, f2, f3, f4⟩
  · rcases List.mem_cons.mp hp with rfl | hp
    · exact ho
    · exact S.xx p (List.mem_cons_of_mem _ hp)
/-- it stands still from now on -/
theorem Stt.xtFreeze {a : Addr} {o : HO} (S : Stt K ⟨H0, F0, io, (a, o) :: xt⟩ σ H F ρ) : Stt K ⟨H0, F0, io, xt⟩ σ H (upd F a o) ρ ∧ Sm F (upd F a o) := by
  obtain ⟨e1, e2, e3, e4⟩ := S.xt (a, o) (List.mem_cons_self ..)
  have nd := List.nodup_cons.mp S.xtd
  have sF : Sm F (upd F a o) := Sm.updN e2
  have oth : ∀ i, (ρ.getD i .un).isOwn = true → ∀ b, σ[i]? = some (some (V.ref b)) → b ≠ a := fun i h b hb e => e4 i h (e ▸ hb)
  refine ⟨⟨fun b u h => ?_, S.ft.upd (isX_tb (S.xx (a, o) (List.mem_cons_self ..))), S.tb, S.same, S.ext.tr sF, fun b u h => ?_, S.len, fun i => ?_, S.dis, S.fresh, S.io, fun p hp => ?_, fun p hp => S.xx p (List.mem_cons_of_mem _ hp), nd.2, S.pin, S.pf.tr sF⟩, sF⟩
  · by_cases e : b = a
    · subst e; rw [upd_same] at h; cases h; exact e1
    · rw [upd_ne e] at h; exact S.sub b u h
  · by_cases e : b = a
    · subst e; exact .inr e3
    · rw [upd_ne e] at h; exact S.new b u h
  · have q := S.at_ i
    have ot := oth i
    cases hs : ρ.getD i .un with
    | un => trivial
    | val d => rw [hs] at q; obtain ⟨v, e, r⟩ := q; exact ⟨v, e, r.mono sF⟩
    | own p ys =>
      rw [hs] at q ot
      obtain ⟨b, ws, f1, f2, f3, r⟩ := q
      exact ⟨b, ws, f1, f2, by rw [upd_ne (ot rfl b f1)]; exact f3, r.mono sF⟩
    | ins p C ns ds =>
      rw [hs] at q ot
      obtain ⟨b, dx, ws, f1, f2, f0, f3, r⟩ := q
      exact ⟨b, dx, ws, f1, f2, f0, by rw [upd_ne (ot rfl b f1)]; exact f3, r.mono sF⟩
    | dic p ks ds =>
      rw [hs] at q ot
      obtain ⟨b, ws, f1, f2, f0, f3, r⟩ := q
      exact ⟨b, ws, f1, f2, f0, by rw [upd_ne (ot rfl b f1)]; exact f3, r.mono sF⟩
    | nst p ds =>
      rw [hs] at q ot
      obtain ⟨b, ws, f1, ⟨o2, f2, fz⟩, f0, f3, r⟩ := q
      exact ⟨b, ws, f1, ⟨o2, f2, fz⟩, f0, by rw [upd_ne (ot rfl b f1)]; exact f3, r.mono sF⟩
    | pin => trivial
  · obtain ⟨f1, f2, f3, f4⟩ := S.xt p (List.mem_cons_of_mem _ hp)
    have ne : p.1 ≠ a := fun e => nd.1 (List.mem_map.mpr ⟨p, hp, e⟩)
    exact ⟨f1, by rw [upd_ne ne]; exact f2, f3, f4⟩
/-- it comes to a slot -/
theorem Stt.xtSlot {a : Addr} {o : HO} {i : Nat} {sv : SV} (S : Stt K ⟨H0, F0, io, (a, o) :: xt⟩ σ H F ρ) (hio : (ρ.getD i .un).isIo = false) (q : SlotOk K H F (some (some (V.ref a))) sv) (hp : sv.isIo = false) :
    Stt K ⟨H0, F0, io, xt⟩ (σ.set i (some (V.ref a))) H F (ρ.set i sv) := by
  obtain ⟨e1, e2, e3, e4⟩ := S.xt (a, o) (List.mem_cons_self ..)
  have nd := List.nodup_cons.mp S.xtd
  have S0 : Stt K ⟨H0, F0, io, xt⟩ σ H F ρ := ⟨S.sub, S.ft, S.tb, S.same, S.ext, S.new, S.len, S.at_, S.dis, S.fresh, S.io, fun p hp => S.xt p (List.mem_cons_of_mem _ hp), fun p hp => S.xx p (List.mem_cons_of_mem _ hp), nd.2, S.pin, S.pf⟩
  refine S0.set hio q hp fun _ b hb => ?_
  cases hb
  exact ⟨e3, e4, fun p hp e => nd.1 (List.mem_map.mpr ⟨p, hp, e⟩)⟩
theorem Stt.xtDrop {a : Addr} {o : HO} (S : Stt K ⟨H0, F0, io, (a, o) :: xt⟩ σ H F ρ) : Stt K ⟨H0, F0, io, xt⟩ σ H F ρ :=
  ⟨S.sub, S.ft, S.tb, S.same, S.ext, S.new, S.len, S.at_, S.dis, S.fresh, S.io, fun p hp => S.xt p (List.mem_cons_of_mem _ hp), fun p hp => S.xx p (List.mem_cons_of_mem _ hp), (List.nodup_cons.mp S.xtd).2, S.pin, S.pf⟩
end

/-- what is known behind a call: all that was tracked stands -/
structure Aft (K : PySem.W.Frag) (H F H' F' : Hp) : Prop where
  h : SmT K H H'
  sub : Sm F' H'
  f : Sm F F'
  new : ∀ a o, F' a = some o → F a = some o ∨ Nn H a
  ft : Ftb F → Ftb F'
theorem Stt.aft {K : PySem.W.Frag} {G : Ent} {σ : St} {H F H' F' : Hp} {ρ : Ro} (S : Stt K G σ H F ρ) (A : Aft K H F H' F') : Stt K G σ H' F' ρ := S.grow A.h A.sub A.f A.new (A.ft S.ft)
def GoodF (K : PySem.W.Frag) (H F : Hp) (r : FR D) (Q : VK) (E : XK) : Prop := match r with
  | .ok d => ∀ v H' F', Aft K H F H' F' → Rep K F' v d → Q v H'
  | .exc x => ∀ d H' F', Aft K H F H' F' → ExcAt K F' d x.fs → E (x.c.v K) d H'
  | .stuck => False
/-- a def of n values -/
structure Pre (K : PySem.W.Frag) (F H : Hp) : Prop where
  sub : Sm F H
  ft : Ftb F
  tb : LamX.Tabs (Lam.T K) H
theorem Stt.pre {K : PySem.W.Frag} {G : Ent} {σ : St} {H F : Hp} {ρ : Ro} (S : Stt K G σ H F ρ) : Pre K F H := ⟨S.sub, S.ft, S.tb⟩
def PSp (K : PySem.W.Frag) (n : Nat) (m : List D → FR D) : Sp := fun vs H Q E => vs.length = n ∧ ∃ F ds, Pre K F H ∧ Reps K F vs ds ∧ GoodF K H F (m ds) Q E
/-- a def that gives a new list -/
def GoodN (K : PySem.W.Frag) (H F : Hp) (r : FR (List D)) (Q : VK) (E : XK) : Prop := match r with
  | .ok xs => ∀ a ws H' F', Aft K H F H' F' → H' a = some (.lst ws) ∧ F' a = none ∧ Nn H a → Reps K F' ws xs → Q (.ref a) H'
  | .exc x => ∀ d H' F', Aft K H F H' F' → ExcAt K F' d x.fs → E (x.c.v K) d H'
  | .stuck => False
def NSp (K : PySem.W.Frag) (n : Nat) (m : List D → FR (List D)) : Sp := fun vs H Q E => vs.length = n ∧ ∃ F ds, Pre K F H ∧ Reps K F vs ds ∧ GoodN K H F (m ds) Q E
/-- .. behind a call that may change the object at a -/
structure AftIo (K : PySem.W.Frag) (a : Addr) (sv : SV) (H F H' F' : Hp) : Prop where
  h : SmA K a H H'
  sub : Sm F' H'
  f : Sm F F'
  new : ∀ b o, F' b = some o → F b = some o ∨ Nn H b
  ft : Ftb F → Ftb F'
  at_ : SlotOk K H' F' (some (some (V.ref a))) sv
  own : sv.isHd = true
inductive IR where
  | ok (d : D) (sv : SV)
  | exc (x : Ex) (sv : SV)
  | stuck
def GoodI (K : PySem.W.Frag) (a : Addr) (H F : Hp) (r : IR) (Q : VK) (E : XK) : Prop := match r with
  | .ok d sv => ∀ v H' F', AftIo K a sv H F H' F' → Rep K F' v d → Q v H'
  | .exc x sv => ∀ d H' F', AftIo K a sv H F H' F' → ExcAt K F' d x.fs → E (x.c.v K) d H'
  | .stuck => False
/-- a def of n values, the first of which it may change -/
def ISp (K : PySem.W.Frag) (n : Nat) (m : SV → List D → IR) : Sp := fun vs H Q E => vs.length = n + 1 ∧ ∃ F a ws sv ds, vs = V.ref a :: ws ∧ Pre K F H ∧ SlotOk K H F (some (some (V.ref a))) sv ∧ sv.isHd = true ∧ Reps K F ws ds ∧ GoodI K a H F (m sv ds) Q E

inductive Fl where
  | nx
  | rt (d : D)
  | rn (ds : List D)
  | bk
  | ct
def GoodS (K : PySem.W.Frag) (G : Ent) (W : WX) (F : Hp) (r : R Fl) (Dn : Ends) : Prop := match r with
  | .ok .nx ρ => ∀ σ' H' F', Stt K G σ' H' F' ρ → Sm F F' → Dn.nx σ' H'
  | .ok (.rt d) ρ => ∀ v σ' H' F', Stt K G σ' H' F' ρ → Sm F F' → Rep K F' v d → Dn.rt v H'
  | .ok (.rn ds) ρ => ∀ a vs σ' H' F', Stt K ⟨G.H0, G.F0, G.io, (a, .lst vs) :: G.xt⟩ σ' H' F' ρ → Sm F F' → Reps K F' vs ds → Dn.rt (.ref a) H'
  | .ok .bk ρ => ∀ σ' H' F', Stt K G σ' H' F' ρ → Sm F F' → Dn.bk σ' H'
  | .ok .ct ρ => ∀ σ' H' F', Stt K G σ' H' F' ρ → Sm F F' → Dn.ct σ' H'
  | .exc x ρ => ∀ d σ' H' F', Stt K G σ' H' F' ρ → Sm F F' → ExcAt K F' d x.fs → W (x.c.v K) d σ' H'
  | .stuck => False
theorem GoodS.mono {K : PySem.W.Frag} {G : Ent} {W : WX} {F F1 : Hp} {r : R Fl} {Dn : Ends} (s : Sm F F1) (h : GoodS K G W F r Dn) : GoodS K G W F1 r Dn := by
  cases r with
  | ok a ρ =>
    cases a with
    | nx => exact fun σ' H' F' S q => h σ' H' F' S (s.tr q)
    | rt d => exact fun v σ' H' F' S q => h v σ' H' F' S (s.tr q)
    | rn ds => exact fun a vs σ' H' F' S q => h a vs σ' H' F' S (s.tr q)
    | bk => exact fun σ' H' F' S q => h σ' H' F' S (s.tr q)
    | ct => exact fun σ' H' F' S q => h σ' H' F' S (s.tr q)
  | exc x ρ => exact fun d σ' H' F' S q => h d σ' H' F' S (s.tr q)
  | stuck => exact h
/-- an expression's part of a statement -/
theorem GoodS.bind {α : Type} {K : PySem.W.Frag} {G : Ent} {W : WX} {σ : St} {F : Hp} {r : R α} {k : α → Ro → R Fl} {P : α → Ro → Hp → Hp → Prop} {Dn : Ends}
    (h : GoodS K G W F (r.bind k) Dn) (f : ∀ a ρ H' F', Stt K G σ H' F' ρ → Sm F F' → GoodS K G W F' (k a ρ) Dn → P a ρ H' F') : Good K G W σ F r P := by
  cases r with
  | ok a ρ => exact fun H' F' S q => f a ρ H' F' S q (GoodS.mono q h)
  | exc x ρ => exact fun d H' F' S q e => h d σ H' F' S q e
  | stuck => exact h
def AS (X : Cx) (W : WX) (st : Stmt) (f : M Fl) : Prop := ∃ t, PS X st t ∧ ∀ G σ H F ρ Dn, Stt X.K G σ H F ρ → GoodS X.K G W F (f ρ) Dn → t Dn σ H
def AB (X : Cx) (W : WX) (st : List Stmt) (f : M Fl) : Prop := ∃ t, PSs X st t ∧ ∀ G σ H F ρ Dn, Stt X.K G σ H F ρ → GoodS X.K G W F (f ρ) Dn → t Dn σ H

/-- a def's run over values -/
def runF (n : Nat) (g : M Fl) (ds : List D) : FR D := match g (ds.map .val ++ List.replicate (n - ds.length) .un) with
  | .ok .nx _ => .ok .non
  | .ok (.rt d) _ => .ok d
  | .exc x _ => .exc x
  | _ => .stuck
/-- .. of a def that gives a new list -/
def runN (n : Nat) (g : M Fl) (ds : List D) : FR (List D) := match g (ds.map .val ++ List.replicate (n - ds.length) .un) with
  | .ok (.rn xs) _ => .ok xs
  | .exc x _ => .exc x
  | _ => .stuck
def runI (n : Nat) (g : M Fl) (sv : SV) (ds : List D) : IR := match g (sv :: ds.map .val ++ List.replicate (n - (ds.length + 1)) .un) with
  | .ok .nx ρ => .ok .non (ρ.getD 0 .un)
  | .ok (.rt d) ρ => .ok d (ρ.getD 0 .un)
  | .exc x ρ => .exc x (ρ.getD 0 .un)
  | _ => .stuck
end PinS
section
variable {K : PySem.W.Frag}
theorem getD_app {α : Type} {l l' : List α} {i : Nat} {x : α} : (l ++ l').getD i x = if i < l.length then l.getD i x else l'.getD (i - l.length) x := by
  rw [List.getD_eq_getElem?_getD, List.getElem?_append]
  split <;> simp [List.getD_eq_getElem?_getD]
theorem get_app {α : Type} {l l' : List α} {i : Nat} : (l ++ l')[i]? = if i < l.length then l[i]? else l'[i - l.length]? := List.getElem?_append
theorem getD_rep {n i : Nat} : (List.replicate n SV.un).getD i .un = .un := by
  rw [List.getD_eq_getElem?_getD, List.getElem?_replicate]
  split <;> rfl
theorem stt_start {H F : Hp} {N : List Str} {vs : List V} {ds : List D} (s : Pre K F H) (r : Reps K F vs ds) : Stt K ⟨H, F, [], []⟩ (L2.start N vs) H F (ds.map .val ++ List.replicate (N.length - ds.length) SV.un) := by
  have le := r.length
  have noOwn : ∀ i, ((ds.map SV.val ++ List.replicate (N.length - ds.length) SV.un).getD i .un).isOwn = false := fun i => by
    rw [getD_app]
    split
    · rename_i h
      rw [List.length_map] at h
      rw [List.getD_eq_getElem?_getD, List.getElem?_map, List.getElem?_eq_getElem h]; rfl
    · rw [getD_rep]; rfl
  refine ⟨s.sub, s.ft, s.tb, fun a o h _ _ => h, Sm.refl, fun a o h => .inl h, by simp [L2.start, le], fun i => ?_, fun i j a h => ?_, fun i a h => ?_, fun i a h => by simp at h, fun p h => by simp at h, fun p h => by simp at h, .nil, fun i v h => absurd (show (i, v) ∈ ([] : List (Nat × V)) from h) (by simp), fun b o h => absurd (show (none : Option HO) = some o from h) (by simp)⟩
  · unfold L2.start
    rw [getD_app, get_app, List.length_map, List.length_map, le]
    by_cases h : i < ds.length
    · rw [if_pos h, if_pos h]
      obtain ⟨v, e, q⟩ := r.get i (List.getElem?_eq_getElem h)
      rw [List.getD_eq_getElem?_getD, List.getElem?_map, List.getElem?_map, List.getElem?_eq_getElem h, e]
      exact ⟨v, rfl, q⟩
    · rw [if_neg h, if_neg h, getD_rep]; trivial
  · rw [noOwn] at h; cases h
  · rw [noOwn] at h; cases h
theorem stt_startI {H F : Hp} {N : List Str} {a : Addr} {vs : List V} {sv : SV} {ds : List D} (s : Pre K F H) (q : SlotOk K H F (some (some (V.ref a))) sv) (hio : sv.isHd = true) (r : Reps K F vs ds) :
    Stt K ⟨H, F, [(0, a)], []⟩ (L2.start N (V.ref a :: vs)) H F (sv :: ds.map .val ++ List.replicate (N.length - (ds.length + 1)) SV.un) := by
  have le := r.length
  have noOwn : ∀ i, ((sv :: ds.map SV.val ++ List.replicate (N.length - (ds.length + 1)) SV.un).getD (i + 1) .un).isOwn = false := fun i => by
    show ((ds.map SV.val ++ List.replicate (N.length - (ds.length + 1)) SV.un).getD i .un).isOwn = false
    rw [getD_app]
    split
    · rename_i h
      rw [List.length_map] at h
      rw [List.getD_eq_getElem?_getD, List.getElem?_map, List.getElem?_eq_getElem h]; rfl
    · rw [getD_rep]; rfl
  refine ⟨s.sub, s.ft, s.tb, fun a o h _ _ => h, Sm.refl, fun a o h => .inl h, by simp [L2.start, le], fun i => ?_, fun i j b h h' e1 e2 => ?_, fun i b h e => ?_, fun i b h => ?_, fun p h => by simp at h, fun p h => by simp at h, .nil, fun i v h => absurd (show (i, v) ∈ ([] : List (Nat × V)) from h) (by simp), fun b o h => absurd (show (none : Option HO) = some o from h) (by simp)⟩
  · cases i with
    | zero => exact q
    | succ i =>
      show SlotOk K H F ((vs.map some ++ List.replicate (N.length - (vs.length + 1)) (none : Option V))[i]?) ((ds.map SV.val ++ List.replicate (N.length - (ds.length + 1)) SV.un).getD i .un)
      rw [getD_app, get_app, List.length_map, List.length_map, le]
      by_cases h : i < ds.length
      · rw [if_pos h, if_pos h]
        obtain ⟨v, e, q⟩ := r.get i (List.getElem?_eq_getElem h)
        rw [List.getD_eq_getElem?_getD, List.getElem?_map, List.getElem?_map, List.getElem?_eq_getElem h, e]
        exact ⟨v, rfl, q⟩
      · rw [if_neg h, if_neg h, getD_rep]; trivial
  · cases i with
    | succ i => rw [noOwn] at h; cases h
    | zero =>
      cases j with
      | succ j => rw [noOwn] at h'; cases h'
      | zero => rfl
  · cases i with
    | succ i => rw [noOwn] at h; cases h
    | zero =>
      have e' : some (some (V.ref a)) = some (some (V.ref b)) := e
      cases e'
      exact .inr (by simp)
  · have e : (i, b) = (0, a) := by simpa using h
    cases e
    exact ⟨rfl, hio⟩
variable {P : Program} {w : World} {mg : Str → Option Value} {base : Heap}
/-- THE RULE for a def of values -/
theorem fn_val {x qual : Str} {params : Arguments} {body : List Stmt} {scope : Scope} {dvs : List V} {kws : List (Str × V)} {f : Addr} {fd : FuncData} {N ps : List Str} {k n : Nat} {g : M Fl} (Fn : FunD K x qual params body scope dvs kws f fd) (S : FnScope N ps scope) (hn : n = ps.length)
    (hb : ∀ (cdv : Value) (_ : codV K f = cdv) (A : Around) (outer : List Env) (s : Shared) (H : Hp) (E : XK), RoomG k (A.deeper (envOfC qual scope s.heap.objs.size f cdv)) →
      AB (cxOf (L2N.CX P w) P w K mg base N qual scope f cdv A outer s H E) (fun c d _ H => E c d H) body g) :
    FnG P w K mg base (k + 1) f fd ps (PSp K n (runF N.length g)) := by
  refine fng_of Fn S (fun vs H Q E h => h.1.trans hn) fun cdv hcd A outer s H vs Q E hr h => ?_
  obtain ⟨hl, F, ds, sF, r, hg⟩ := h
  obtain ⟨t, ht, q⟩ := hb cdv hcd A outer s H E hr
  refine ⟨t, ht, q ⟨H, F, [], []⟩ _ H F _ _ (stt_start sF r) ?_⟩
  unfold runF at hg
  have aft : ∀ {σ' : St} {H' F' : Hp} {ρ : Ro}, Stt K ⟨H, F, [], []⟩ σ' H' F' ρ → Aft K H F H' F' := fun S => ⟨⟨fun a o e n => S.same a o e (fun i z => by simp at z) n, fun _ => S.tb⟩, S.sub, S.ext, S.new, fun _ => S.ft⟩
  cases e : g (ds.map SV.val ++ List.replicate (N.length - ds.length) SV.un) with
  | ok a ρ =>
    rw [e] at hg
    cases a with
    | nx => exact fun σ' H' F' S q => hg .non H' F' (aft S) .non
    | rt d => exact fun v σ' H' F' S q rv => hg v H' F' (aft S) rv
    | rn ds => exact hg.elim
    | bk => exact hg.elim
    | ct => exact hg.elim
  | exc x ρ =>
    rw [e] at hg
    exact fun d σ' H' F' S q rv => hg d H' F' (aft S) rv
  | stuck => rw [e] at hg; exact hg
/-- THE RULE for a def that gives a new list -/
theorem fn_new {x qual : Str} {params : Arguments} {body : List Stmt} {scope : Scope} {dvs : List V} {kws : List (Str × V)} {f : Addr} {fd : FuncData} {N ps : List Str} {k n : Nat} {g : M Fl} (Fn : FunD K x qual params body scope dvs kws f fd) (S : FnScope N ps scope) (hn : n = ps.length)
    (hb : ∀ (cdv : Value) (_ : codV K f = cdv) (A : Around) (outer : List Env) (s : Shared) (H : Hp) (E : XK), RoomG k (A.deeper (envOfC qual scope s.heap.objs.size f cdv)) →
      AB (cxOf (L2N.CX P w) P w K mg base N qual scope f cdv A outer s H E) (fun c d _ H => E c d H) body g) :
    FnG P w K mg base (k + 1) f fd ps (NSp K n (runN N.length g)) := by
  refine fng_of Fn S (fun vs H Q E h => h.1.trans hn) fun cdv hcd A outer s H vs Q E hr h => ?_
  obtain ⟨hl, F, ds, sF, r, hg⟩ := h
  obtain ⟨t, ht, q⟩ := hb cdv hcd A outer s H E hr
  refine ⟨t, ht, q ⟨H, F, [], []⟩ _ H F _ _ (stt_start sF r) ?_⟩
  unfold runN at hg
  have aft : ∀ {σ' : St} {H' F' : Hp} {ρ : Ro} {xt : List (Addr × HO)}, Stt K ⟨H, F, [], xt⟩ σ' H' F' ρ → Aft K H F H' F' := fun S => ⟨⟨fun a o e n => S.same a o e (fun i z => by simp at z) n, fun _ => S.tb⟩, S.sub, S.ext, S.new, fun _ => S.ft⟩
  cases e : g (ds.map SV.val ++ List.replicate (N.length - ds.length) SV.un) with
  | ok a ρ =>
    rw [e] at hg
    cases a with
    | nx => exact hg.elim
    | rt d => exact hg.elim
    | rn xs =>
      refine fun a vs σ' H' F' S q rv => hg a vs H' F' (aft S) ?_ rv
      obtain ⟨h1, h2, h3, _⟩ := S.xt (a, .lst vs) (List.mem_cons_self ..)
      exact ⟨h1, h2, h3⟩
    | bk => exact hg.elim
    | ct => exact hg.elim
  | exc x ρ =>
    rw [e] at hg
    exact fun d σ' H' F' S q rv => hg d H' F' (aft S) rv
  | stuck => rw [e] at hg; exact hg
/-- THE RULE for a def that may change its first parameter -/
theorem fn_io {x qual : Str} {params : Arguments} {body : List Stmt} {scope : Scope} {dvs : List V} {kws : List (Str × V)} {f : Addr} {fd : FuncData} {N ps : List Str} {k n : Nat} {g : M Fl} (Fn : FunD K x qual params body scope dvs kws f fd) (S : FnScope N ps scope) (hn : n + 1 = ps.length)
    (hb : ∀ (cdv : Value) (_ : codV K f = cdv) (A : Around) (outer : List Env) (s : Shared) (H : Hp) (E : XK), RoomG k (A.deeper (envOfC qual scope s.heap.objs.size f cdv)) →
      AB (cxOf (L2N.CX P w) P w K mg base N qual scope f cdv A outer s H E) (fun c d _ H => E c d H) body g) :
    FnG P w K mg base (k + 1) f fd ps (ISp K n (runI N.length g)) := by
  refine fng_of Fn S (fun vs H Q E h => h.1.trans hn) fun cdv hcd A outer s H vs Q E hr h => ?_
  obtain ⟨hl, F, a, ws, sv, ds, rfl, sF, qs, hio, r, hg⟩ := h
  obtain ⟨t, ht, q⟩ := hb cdv hcd A outer s H E hr
  refine ⟨t, ht, q ⟨H, F, [(0, a)], []⟩ _ H F _ _ (stt_startI sF qs hio r) ?_⟩
  unfold runI at hg
  have aft : ∀ {σ' : St} {H' F' : Hp} {ρ : Ro}, Stt K ⟨H, F, [(0, a)], []⟩ σ' H' F' ρ → AftIo K a (ρ.getD 0 .un) H F H' F' := fun {σ' H' F' ρ} S => by
    obtain ⟨e1, e2⟩ := S.io 0 a (by simp)
    refine ⟨⟨fun b o ne e n => S.same b o e (fun i z => ne ?_) n, fun _ => S.tb⟩, S.sub, S.ext, S.new, fun _ => S.ft, ?_, e2⟩
    · have : (i, b) = (0, a) := by simpa using z
      cases this; rfl
    · have q := S.at_ 0
      rw [e1] at q; exact q
  cases e : g (sv :: ds.map SV.val ++ List.replicate (N.length - (ds.length + 1)) SV.un) with
  | ok a ρ =>
    rw [e] at hg
    cases a with
    | nx => exact fun σ' H' F' S q => hg .non H' F' (aft S) .non
    | rt d => exact fun v σ' H' F' S q rv => hg v H' F' (aft S) rv
    | rn ds => exact hg.elim
    | bk => exact hg.elim
    | ct => exact hg.elim
  | exc x ρ =>
    rw [e] at hg
    exact fun d σ' H' F' S q rv => hg d H' F' (aft S) rv
  | stuck => rw [e] at hg; exact hg
end
end Mr
namespace Mr
open PySem PySem.Spec PyProof.Rows L2
variable [Lam] [Pins]

def mVar (i : Nat) : M D := fun ρ => match ρ.getD i .un with
  | .val d => .ok d ρ
  | .own false xs => .ok (.lst xs) (ρ.set i (.val (.lst xs)))
  | .dic false ks xs => .ok (.dct ks xs) (ρ.set i (.val (.dct ks xs)))
  | _ => .stuck
def mC (d : D) : M D := fun ρ => .ok d ρ
def m2 (g : D → D → FR D) (a b : M D) : M D := fun ρ => (a ρ).bind fun x ρ => (b ρ).bind fun y ρ => (g x y).lift ρ
def m1 (g : D → FR D) (a : M D) : M D := fun ρ => (a ρ).bind fun x ρ => (g x).lift ρ
def mL (g : List D → FR D) (a : M (List D)) : M D := fun ρ => (a ρ).bind fun xs ρ => (g xs).lift ρ
def mNil : M (List D) := fun ρ => .ok [] ρ
def mCons (a : M D) (r : M (List D)) : M (List D) := fun ρ => (a ρ).bind fun x ρ => (r ρ).bind fun xs ρ => .ok (x :: xs) ρ
def mIf (t : M Bool) (a b : M D) : M D := fun ρ => (t ρ).bind fun c ρ => if c = true then a ρ else b ρ
def mAnd (a b : M D) : M D := fun ρ => (a ρ).bind fun x ρ => match x with
  | .bl true => b ρ
  | .bl false => .ok (.bl false) ρ
  | _ => .stuck
def mOr (a b : M D) : M D := fun ρ => (a ρ).bind fun x ρ => match x with
  | .bl true => .ok (.bl true) ρ
  | .bl false => b ρ
  | _ => .stuck
def notD : D → FR D
  | .bl b => .ok (.bl (!b))
  | _ => .stuck
/-- a < b < c -/
def mChain (g h : D → D → FR D) (a b c : M D) : M D := fun ρ => (a ρ).bind fun x ρ => (b ρ).bind fun y ρ => ((g x y).lift ρ).bind fun z ρ => match z with
  | .bl true => (c ρ).bind fun w ρ => (h y w).lift ρ
  | .bl false => .ok (.bl false) ρ
  | _ => .stuck
def tOf (a : M D) : M Bool := fun ρ => (a ρ).bind fun x ρ => match x with
  | .bl b => .ok b ρ
  | _ => .stuck
def tNot (a : M Bool) : M Bool := fun ρ => (a ρ).bind fun b ρ => .ok (!b) ρ
def tAnd (a b : M Bool) : M Bool := fun ρ => (a ρ).bind fun c ρ => if c = true then b ρ else .ok false ρ
def tOr (a b : M Bool) : M Bool := fun ρ => (a ρ).bind fun c ρ => if c = true then .ok true ρ else b ρ

section
variable {X : Cx} {W : WX}
theorem AE.var {i : Nat} {x : Str} {pos : Pos} (h : PE X (.Name x pos) (tVar i)) : AE X W (.Name x pos) (mVar i) := by
  refine ⟨_, h, fun G σ H F ρ Q S hg => ?_⟩
  unfold mVar at hg
  have q := S.at_ i
  cases e : ρ.getD i .un with
  | un => rw [e] at hg; exact hg.elim
  | val d =>
    rw [e] at hg q
    obtain ⟨v, e1, r⟩ := q
    exact ⟨v, e1, hg H F S Sm.refl v r⟩
  | own p xs =>
    cases p with
    | true => rw [e] at hg; exact hg.elim
    | false =>
      obtain ⟨a, F', e1, S', sF, r⟩ := S.freeze e
      rw [e] at hg
      exact ⟨_, e1, hg H F' S' sF _ r⟩
  | ins p C ns ds => rw [e] at hg; exact hg.elim
  | dic p ks ds =>
    cases p with
    | true => rw [e] at hg; exact hg.elim
    | false =>
      obtain ⟨a, F', e1, S', sF, r⟩ := S.freezeD e
      rw [e] at hg
      exact ⟨_, e1, hg H F' S' sF _ r⟩
  | nst p ks => rw [e] at hg; exact hg.elim
  | pin => rw [e] at hg; exact hg.elim
theorem AE.cst {e : Expr} {v : V} {d : D} (h : PE X e (tC v)) (r : ∀ K H, Rep K H v d) : AE X W e (mC d) :=
  ⟨_, h, fun G σ H F ρ Q S hg => hg H F S Sm.refl v (r _ _)⟩
theorem AE.int {i : Int} {j : Nat} {pos : Pos} : AE X W (.Constant (.int i) j pos) (mC (.int i)) := .cst pe_int fun _ _ => .int i
theorem AE.str {x : Str} {j : Nat} {pos : Pos} : AE X W (.Constant (.str x) j pos) (mC (.str x)) := .cst pe_str fun _ _ => .str x
theorem AE.bl {b : Bool} {j : Nat} {pos : Pos} : AE X W (.Constant (.bool b) j pos) (mC (.bl b)) := .cst pe_bl fun _ _ => .bl b
theorem AE.non {j : Nat} {pos : Pos} : AE X W (.Constant .none j pos) (mC .non) := .cst pe_non fun _ _ => .non
theorem AE.gint {x : Str} {i : Int} {t : Tok} {pos : Pos} (hg : Gl X x) (hm : X.mg x = some (.int i t)) (hd : (x == ("__debug__" : Str)) = false := by decide) : AE X W (.Name x pos) (mC (.int i)) := .cst (v := .int i) (pe_glob hg hm ⟨t, rfl⟩ hd) fun _ _ => .int i
theorem AE.gstr {x : Str} {i : Str} {t : Tok} {pos : Pos} (hg : Gl X x) (hm : X.mg x = some (.str i t)) (hd : (x == ("__debug__" : Str)) = false := by decide) : AE X W (.Name x pos) (mC (.str i)) := .cst (v := .str i) (pe_glob hg hm ⟨t, rfl⟩ hd) fun _ _ => .str i

/-- a two-place operation does g -/
def OA (X : Cx) (W : WX) (f : Value → Value → Sem Value) (g : D → D → FR D) : Prop :=
  ∃ r : R2, OpR X f r ∧ ∀ G σ H F ρ x y dx dy Q, Stt X.K G σ H F ρ → Rep X.K F x dx → Rep X.K F y dy → Good X.K G W σ F ((g dx dy).lift ρ) (PD X.K Q) → r x y H Q
def UA (X : Cx) (W : WX) (f : Value → Sem Value) (g : D → FR D) : Prop :=
  ∃ r : V → Hp → VK → Prop, UnR X f r ∧ ∀ G σ H F ρ x dx Q, Stt X.K G σ H F ρ → Rep X.K F x dx → Good X.K G W σ F ((g dx).lift ρ) (PD X.K Q) → r x H Q
/-- a call of a built-in value does g -/
def CA (X : Cx) (W : WX) (f : Value) (g : List D → FR D) : Prop :=
  ∃ r : List V → Hp → VK → Prop, CallR X f r ∧ ∀ G σ H F ρ vs ds Q, Stt X.K G σ H F ρ → Reps X.K F vs ds → Good X.K G W σ F ((g ds).lift ρ) (PD X.K Q) → r vs H Q
variable {a b c : Expr} {fa fb fc : M D} {pos : Pos}
theorem AE.bin {op : Operator} {g : D → D → FR D} (ho : OA X W (binaryOp op) g) (ha : AE X W a fa) (hb : AE X W b fb) : AE X W (.BinOp a op b pos) (m2 g fa fb) := by
  obtain ⟨r, h1, h2⟩ := ho
  obtain ⟨ta, pa, qa⟩ := ha
  obtain ⟨tb, pb, qb⟩ := hb
  refine ⟨_, pe_op h1 pa pb, fun G σ H F ρ Q S hg => qa G σ H F ρ _ S (hg.bind fun dx ρ1 H1 F1 S1 s1 g1 v r1 => qb G σ H1 F1 ρ1 _ S1 (g1.bind fun dy ρ2 H2 F2 S2 s2 g2 u r2 => ?_))⟩
  exact h2 G σ H2 F2 ρ2 v u dx dy Q S2 (r1.mono s2) r2 g2
theorem AE.cmp {op : CmpOp} {g : D → D → FR D} (ho : OA X W (compareOp op) g) (ha : AE X W a fa) (hb : AE X W b fb) (hm : behindInMarks op b = false) : AE X W (.Compare a [op] [b] pos) (m2 g fa fb) := by
  obtain ⟨r, h1, h2⟩ := ho
  obtain ⟨ta, pa, qa⟩ := ha
  obtain ⟨tb, pb, qb⟩ := hb
  refine ⟨_, pe_cmpR h1 pa pb hm, fun G σ H F ρ Q S hg => qa G σ H F ρ _ S (hg.bind fun dx ρ1 H1 F1 S1 s1 g1 v r1 => qb G σ H1 F1 ρ1 _ S1 (g1.bind fun dy ρ2 H2 F2 S2 s2 g2 u r2 => ?_))⟩
  exact h2 G σ H2 F2 ρ2 v u dx dy Q S2 (r1.mono s2) r2 g2
theorem tOf_bool {Q : Bool → Hp → Prop} {K : PySem.W.Frag} {G : Ent} {σ : St} {F : Hp} {r : R D} (h : Good K G W σ F (r.bind fun x ρ => match x with | .bl b => .ok b ρ | _ => .stuck) (PB Q)) : Good K G W σ F r (PD K fun v H => ∃ k, v = .bl k ∧ Q k H) :=
  h.bind fun d ρ1 H1 F1 S1 s1 g1 v r1 => by
    cases d with
    | bl b => cases r1; exact ⟨b, rfl, g1 H1 F1 S1 Sm.refl⟩
    | _ => exact g1.elim
theorem AT.cmp {op : CmpOp} {g : D → D → FR D} (ho : OA X W (compareOp op) g) (ha : AE X W a fa) (hb : AE X W b fb) (hm : behindInMarks op b = false) : AT X W (.Compare a [op] [b] pos) (tOf (m2 g fa fb)) := by
  obtain ⟨r, h1, h2⟩ := ho
  obtain ⟨ta, pa, qa⟩ := ha
  obtain ⟨tb, pb, qb⟩ := hb
  refine ⟨_, pt_cmpR h1 pa pb hm, fun G σ H F ρ Q S hg => qa G σ H F ρ _ S ((tOf_bool hg).bind fun dx ρ1 H1 F1 S1 s1 g1 v r1 => qb G σ H1 F1 ρ1 _ S1 (g1.bind fun dy ρ2 H2 F2 S2 s2 g2 u r2 => ?_))⟩
  exact h2 G σ H2 F2 ρ2 v u dx dy _ S2 (r1.mono s2) r2 g2
theorem AE.chain {op op' : CmpOp} {g h : D → D → FR D} (ho : OA X W (compareOp op) g) (ho' : OA X W (compareOp op') h) (ha : AE X W a fa) (hb : AE X W b fb) (hc : AE X W c fc) (hm : lastMarks [op, op'] [b, c] = false := by with_unfolding_all rfl) :
    AE X W (.Compare a [op, op'] [b, c] pos) (mChain g h fa fb fc) := by
  obtain ⟨r, h1, h2⟩ := ho
  obtain ⟨r', h3, h4⟩ := ho'
  obtain ⟨ta, pa, qa⟩ := ha
  obtain ⟨tb, pb, qb⟩ := hb
  obtain ⟨tc, pc, qc⟩ := hc
  refine ⟨_, pe_chain h1 h3 pa pb pc hm, fun G σ H F ρ Q S hg => qa G σ H F ρ _ S (hg.bind fun dx ρ1 H1 F1 S1 s1 g1 v r1 => qb G σ H1 F1 ρ1 _ S1 (g1.bind fun dy ρ2 H2 F2 S2 s2 g2 u r2 => ?_))⟩
  refine h2 G σ H2 F2 ρ2 v u dx dy _ S2 (r1.mono s2) r2 (g2.bind fun dz ρ3 H3 F3 S3 s3 g3 z r3 => ?_)
  cases dz with
  | bl k =>
    cases r3
    refine ⟨k, rfl, ?_⟩
    cases k with
    | true =>
      rw [if_pos rfl]
      exact qc G σ H3 F3 ρ3 _ S3 (g3.bind fun dw ρ4 H4 F4 S4 s4 g4 w r4 => h4 G σ H4 F4 ρ4 u w dy dw Q S4 (r2.mono (s3.tr s4)) r4 g4)
    | false =>
      rw [if_neg Bool.false_ne_true]
      exact g3 H3 F3 S3 Sm.refl _ (.bl false)
  | _ => exact g3.elim
theorem AT.chain {op op' : CmpOp} {g h : D → D → FR D} (ho : OA X W (compareOp op) g) (ho' : OA X W (compareOp op') h) (ha : AE X W a fa) (hb : AE X W b fb) (hc : AE X W c fc) (hm : lastMarks [op, op'] [b, c] = false := by with_unfolding_all rfl) :
    AT X W (.Compare a [op, op'] [b, c] pos) (tOf (mChain g h fa fb fc)) := by
  obtain ⟨r, h1, h2⟩ := ho
  obtain ⟨r', h3, h4⟩ := ho'
  obtain ⟨ta, pa, qa⟩ := ha
  obtain ⟨tb, pb, qb⟩ := hb
  obtain ⟨tc, pc, qc⟩ := hc
  refine ⟨_, pt_chain h1 h3 pa pb pc hm, fun G σ H F ρ Q S hg => qa G σ H F ρ _ S ((tOf_bool hg).bind fun dx ρ1 H1 F1 S1 s1 g1 v r1 => qb G σ H1 F1 ρ1 _ S1 (g1.bind fun dy ρ2 H2 F2 S2 s2 g2 u r2 => ?_))⟩
  refine h2 G σ H2 F2 ρ2 v u dx dy _ S2 (r1.mono s2) r2 (g2.bind fun dz ρ3 H3 F3 S3 s3 g3 z r3 => ?_)
  cases dz with
  | bl k =>
    cases r3
    refine ⟨k, rfl, ?_⟩
    cases k with
    | true =>
      rw [if_pos rfl]
      exact qc G σ H3 F3 ρ3 _ S3 (g3.bind fun dw ρ4 H4 F4 S4 s4 g4 w r4 => h4 G σ H4 F4 ρ4 u w dy dw _ S4 (r2.mono (s3.tr s4)) r4 g4)
    | false =>
      rw [if_neg Bool.false_ne_true]
      exact g3 H3 F3 S3 Sm.refl _ (.bl false)
  | _ => exact g3.elim
theorem AE.un {op : UnaryOp} {g : D → FR D} (ho : UA X W (unaryOp op) g) (ha : AE X W a fa) : AE X W (.UnaryOp op a pos) (m1 g fa) := by
  obtain ⟨r, h1, h2⟩ := ho
  obtain ⟨ta, pa, qa⟩ := ha
  exact ⟨_, pe_un h1 pa, fun G σ H F ρ Q S hg => qa G σ H F ρ _ S (hg.bind fun dx ρ1 H1 F1 S1 s1 g1 v r1 => h2 G σ H1 F1 ρ1 v dx Q S1 r1 g1)⟩
theorem AE.not (ha : AE X W a fa) : AE X W (.UnaryOp .Not a pos) (m1 notD fa) := by
  obtain ⟨ta, pa, qa⟩ := ha
  refine ⟨_, pe_not pa, fun G σ H F ρ Q S hg => qa G σ H F ρ _ S (hg.bind fun dx ρ1 H1 F1 S1 s1 g1 v r1 => ?_)⟩
  cases dx with
  | bl k => cases r1; exact ⟨k, rfl, g1 H1 F1 S1 Sm.refl _ (.bl _)⟩
  | _ => exact g1.elim
theorem AE.one {op : BoolOp} (ha : AE X W a fa) : AE X W (.BoolOp op [a] pos) fa := by
  obtain ⟨ta, pa, qa⟩ := ha
  exact ⟨_, pe_one pa, qa⟩
theorem AE.and {rest : List Expr} (ha : AE X W a fa) (hb : AE X W (.BoolOp .And (b :: rest) pos) fb) : AE X W (.BoolOp .And (a :: b :: rest) pos) (mAnd fa fb) := by
  obtain ⟨ta, pa, qa⟩ := ha
  obtain ⟨tb, pb, qb⟩ := hb
  refine ⟨_, pe_and pa pb, fun G σ H F ρ Q S hg => qa G σ H F ρ _ S (hg.bind fun dx ρ1 H1 F1 S1 s1 g1 v r1 => ?_)⟩
  cases dx with
  | bl k =>
    cases r1
    refine ⟨k, rfl, ?_⟩
    cases k with
    | true => rw [if_pos rfl]; exact qb G σ H1 F1 ρ1 Q S1 g1
    | false => rw [if_neg Bool.false_ne_true]; exact g1 H1 F1 S1 Sm.refl _ (.bl false)
  | _ => exact g1.elim
theorem AE.or {rest : List Expr} (ha : AE X W a fa) (hb : AE X W (.BoolOp .Or (b :: rest) pos) fb) : AE X W (.BoolOp .Or (a :: b :: rest) pos) (mOr fa fb) := by
  obtain ⟨ta, pa, qa⟩ := ha
  obtain ⟨tb, pb, qb⟩ := hb
  refine ⟨_, pe_or pa pb, fun G σ H F ρ Q S hg => qa G σ H F ρ _ S (hg.bind fun dx ρ1 H1 F1 S1 s1 g1 v r1 => ?_)⟩
  cases dx with
  | bl k =>
    cases r1
    refine ⟨k, rfl, ?_⟩
    cases k with
    | true => rw [if_pos rfl]; exact g1 H1 F1 S1 Sm.refl _ (.bl true)
    | false => rw [if_neg Bool.false_ne_true]; exact qb G σ H1 F1 ρ1 Q S1 g1
  | _ => exact g1.elim
variable {ta tb : M Bool}
theorem AT.val (ha : AE X W a fa) (he : ∀ whole, isTrue a X.env whole = (do let v ← whole; standAt a.pos; holding [v] (truthy v)) := by intro _; rfl) : AT X W a (tOf fa) := by
  obtain ⟨t, pa, qa⟩ := ha
  exact ⟨_, pt_val pa he, fun G σ H F ρ Q S hg => qa G σ H F ρ _ S (tOf_bool hg)⟩
theorem AW.pt (h : AW X W a ta) : AT X W a ta := by
  obtain ⟨t, pa, qa⟩ := h
  exact ⟨_, pa.pt, qa⟩
theorem AT.not (ha : AT X W a ta) : AT X W (.UnaryOp .Not a pos) (tNot ta) := by
  obtain ⟨t, pa, qa⟩ := ha
  exact ⟨_, pt_not pa, fun G σ H F ρ Q S hg => qa G σ H F ρ _ S (hg.bind fun k ρ1 H1 F1 S1 s1 g1 => g1 H1 F1 S1 Sm.refl)⟩
theorem AW.and1 (ha : AT X W a ta) : AW X W (.BoolOp .And [a] pos) ta := by
  obtain ⟨t, pa, qa⟩ := ha
  exact ⟨_, pw_and1 pa, qa⟩
theorem AW.or1 (ha : AT X W a ta) : AW X W (.BoolOp .Or [a] pos) ta := by
  obtain ⟨t, pa, qa⟩ := ha
  exact ⟨_, pw_or1 pa, qa⟩
theorem AW.and {rest : List Expr} (ha : AT X W a ta) (hb : AW X W (.BoolOp .And (b :: rest) pos) tb) : AW X W (.BoolOp .And (a :: b :: rest) pos) (tAnd ta tb) := by
  obtain ⟨t, pa, qa⟩ := ha
  obtain ⟨u, pb, qb⟩ := hb
  refine ⟨_, pw_and pa pb, fun G σ H F ρ Q S hg => qa G σ H F ρ _ S (hg.bind fun k ρ1 H1 F1 S1 s1 g1 => ?_)⟩
  show if k = true then u σ H1 Q else Q false H1
  cases k with
  | true => rw [if_pos rfl]; exact qb G σ H1 F1 ρ1 Q S1 g1
  | false => rw [if_neg Bool.false_ne_true]; exact g1 H1 F1 S1 Sm.refl
theorem AW.or {rest : List Expr} (ha : AT X W a ta) (hb : AW X W (.BoolOp .Or (b :: rest) pos) tb) : AW X W (.BoolOp .Or (a :: b :: rest) pos) (tOr ta tb) := by
  obtain ⟨t, pa, qa⟩ := ha
  obtain ⟨u, pb, qb⟩ := hb
  refine ⟨_, pw_or pa pb, fun G σ H F ρ Q S hg => qa G σ H F ρ _ S (hg.bind fun k ρ1 H1 F1 S1 s1 g1 => ?_)⟩
  show if k = true then Q true H1 else u σ H1 Q
  cases k with
  | true => rw [if_pos rfl]; exact g1 H1 F1 S1 Sm.refl
  | false => rw [if_neg Bool.false_ne_true]; exact qb G σ H1 F1 ρ1 Q S1 g1
theorem AE.ifx (hc : AT X W c ta) (ha : AE X W a fa) (hb : AE X W b fb) : AE X W (.IfExp c a b pos) (mIf ta fa fb) := by
  obtain ⟨t, pc, qc⟩ := hc
  obtain ⟨ua, pa, qa⟩ := ha
  obtain ⟨ub, pb, qb⟩ := hb
  refine ⟨_, pe_ifExp pc pa pb, fun G σ H F ρ Q S hg => qc G σ H F ρ _ S (hg.bind fun k ρ1 H1 F1 S1 s1 g1 => ?_)⟩
  show if k = true then ua σ H1 Q else ub σ H1 Q
  cases k with
  | true => rw [if_pos rfl]; exact qa G σ H1 F1 ρ1 Q S1 g1
  | false => rw [if_neg Bool.false_ne_true]; exact qb G σ H1 F1 ρ1 Q S1 g1
variable {es : List Expr} {fs : M (List D)}
theorem AA.nil : AA X W [] mNil := ⟨_, pa_nil, fun G σ H F ρ Q S hg => hg H F S Sm.refl [] .nil⟩
theorem AA.cons (ha : AE X W a fa) (hr : AA X W es fs) (hs : starEach (a :: es) X.env = (false, eval a X.env) :: starEach es X.env := by rfl) : AA X W (a :: es) (mCons fa fs) := by
  obtain ⟨ta, pa, qa⟩ := ha
  obtain ⟨tr, pr, qr⟩ := hr
  refine ⟨_, pa_cons pa pr hs, fun G σ H F ρ Q S hg => qa G σ H F ρ _ S (hg.bind fun d ρ1 H1 F1 S1 s1 g1 v r1 => qr G σ H1 F1 ρ1 _ S1 (g1.bind fun ds ρ2 H2 F2 S2 s2 g2 vs r2 => ?_))⟩
  exact g2 H2 F2 S2 Sm.refl _ (.cons (r1.mono s2) r2)
def tupD (ds : List D) : FR D := if ds.length ≤ sizeLine then .ok (.tup ds) else .stuck
def lstD (ds : List D) : FR D := if ds.length ≤ sizeLine then .ok (.lst ds) else .stuck
theorem newTup {G : Ent} {σ : St} {H F : Hp} {ρ : Ro} {vs : List V} {ds : List D} {Q : VK} {p : Addr} {o : Obj} (S : Stt X.K G σ H F ρ) (r : Reps X.K F vs ds) (g : Good X.K G W σ F (.ok (.tup ds) ρ) (PD X.K Q)) (hp : H p = none) (hd : o.dict = none) : Q (.ref p) (upd H p (.frz o (.tup vs))) :=
  g _ _ (S.alloc hp) (S.allocF hp) _ (.tup sqt_new (r.mono (S.allocF hp)) (.new hd))
/-- .. of no text -/
theorem newTup0 {G : Ent} {σ : St} {H F : Hp} {ρ : Ro} {vs : List V} {ds : List D} {Q : VK} {p : Addr} (S : Stt X.K G σ H F ρ) (r : Reps X.K F vs ds) (g : Good X.K G W σ F (.ok (.tup ds) ρ) (PD X.K Q)) (hp : H p = none) (hn : nmD ds = false) : Q (.ref p) (upd H p (.tup vs)) :=
  g _ _ (S.alloc hp) (S.allocF hp) _ (.tup (.of upd_same) (r.mono (S.allocF hp)) (.no hn))
theorem newLst {G : Ent} {σ : St} {H F : Hp} {ρ : Ro} {vs : List V} {ds : List D} {Q : VK} {p : Addr} (S : Stt X.K G σ H F ρ) (r : Reps X.K F vs ds) (g : Good X.K G W σ F (.ok (.lst ds) ρ) (PD X.K Q)) (hp : H p = none) : Q (.ref p) (upd H p (.lst vs)) :=
  g _ _ (S.alloc hp) (S.allocF hp) _ (.lst upd_same (r.mono (S.allocF hp)))
/-- the object of a tuple of these values -/
abbrev tupO (us : List Value) : Obj := { cls := .type "tuple", data := .seq us.toArray }
def tTupN (t : TA) : TE := fun σ H Q => t σ H fun xs H1 => xs.length ≤ sizeLine ∧ ∀ p o, o.dict = none → H1 p = none → Q (.ref p) (upd H1 p (.frz o (.tup xs)))
/-- a display of a tuple: its object has no dict -/
theorem pe_tupN {x1 : Nat} {t : TA} (h : PA X es t) : PE X (.Tuple es x1 pos) (tTupN t) := ⟨fun pins s σ H Q I hq =>
  wpAny_Tuple_spliced (thn (h.run pos pins s σ H _ I hq) fun us s1 ⟨xs, H1, I1, r, z, q⟩ => ⟨by rw [← r.length]; exact z, by
    have g : (s1.heap.push (tupO us)).get? s1.heap.objs.size = some (tupO us) := Heap.get?_push_size _ rfl
    exact ⟨.ref s1.heap.objs.size, _, I1.laid (t' := s1.toks) (o := .frz (tupO us) (.tup xs)) (fun b u e => Heap.get?_push_of_some _ e) (Nat.le_refl _) ⟨g, z, us, r, ⟨_, g, rfl, _, rfl⟩⟩, rfl, q _ _ rfl (I1.hok.fresh (Nat.le_refl _))⟩⟩)⟩
theorem AE.tup {k : Nat} (h : AA X W es fs) : AE X W (.Tuple es k pos) (mL tupD fs) := by
  obtain ⟨t, p, q⟩ := h
  refine ⟨_, pe_tupN p, fun G σ H F ρ Q S hg => q G σ H F ρ _ S (hg.bind fun ds ρ1 H1 F1 S1 s1 g1 vs r1 => ?_)⟩
  unfold tupD at g1
  by_cases hz : ds.length ≤ sizeLine
  · rw [if_pos hz] at g1
    exact ⟨by rw [r1.length]; exact hz, fun p o hd hp => newTup S1 r1 g1 hp hd⟩
  · rw [if_neg hz] at g1; exact g1.elim
theorem AE.lst (h : AA X W es fs) : AE X W (.List es pos) (mL lstD fs) := by
  obtain ⟨t, p, q⟩ := h
  refine ⟨_, pe_lst p, fun G σ H F ρ Q S hg => q G σ H F ρ _ S (hg.bind fun ds ρ1 H1 F1 S1 s1 g1 vs r1 => ?_)⟩
  unfold lstD at g1
  by_cases hz : ds.length ≤ sizeLine
  · rw [if_pos hz] at g1
    exact ⟨by rw [r1.length]; exact hz, fun p hp => newLst S1 r1 g1 hp⟩
  · rw [if_neg hz] at g1; exact g1.elim
theorem AE.blt {x : Str} {p : Pos} {id : String} {g : List D → FR D} (hc : CA X W (.builtin id) g) (hg : Gl X x) (hm : X.mg x = none) (hv : bootBuiltins x = some (.builtin id)) (ha : AA X W (a :: es) fs) (hn : x ≠ "__name__" := by decide) (hdb : (x == ("__debug__" : Str)) = false := by decide)
    (he : starEach (a :: es) X.env = (false, eval a X.env) :: starEach es X.env := by rfl) (hpl : (backTo pos (starEach es X.env)).any (·.1) = false := by rfl) : AE X W (.Call (.Name x p) (a :: es) [] pos) (mL g fs) := by
  obtain ⟨r, h1, h2⟩ := hc
  obtain ⟨t, pa, qa⟩ := ha
  exact ⟨_, pe_callB h1 hg hm hv pa hn hdb he hpl, fun G σ H F ρ Q S hgd => qa G σ H F ρ _ S (hgd.bind fun ds ρ1 H1 F1 S1 s1 g1 vs r1 => h2 G σ H1 F1 ρ1 vs ds Q S1 r1 g1)⟩
theorem AE.bty {x : Str} {p : Pos} {T : String} {g : List D → FR D} (hc : CA X W (.type T) g) (hg : Gl X x) (hm : X.mg x = none) (hv : bootBuiltins x = some (.type T)) (ha : AA X W (a :: es) fs) (hn : x ≠ "__name__" := by decide) (hdb : (x == ("__debug__" : Str)) = false := by decide)
    (he : starEach (a :: es) X.env = (false, eval a X.env) :: starEach es X.env := by rfl) (hpl : (backTo pos (starEach es X.env)).any (·.1) = false := by rfl) : AE X W (.Call (.Name x p) (a :: es) [] pos) (mL g fs) := by
  obtain ⟨r, h1, h2⟩ := hc
  obtain ⟨t, pa, qa⟩ := ha
  exact ⟨_, pe_callTy h1 hg hm hv pa hn hdb he hpl, fun G σ H F ρ Q S hgd => qa G σ H F ρ _ S (hgd.bind fun ds ρ1 H1 F1 S1 s1 g1 vs r1 => h2 G σ H1 F1 ρ1 vs ds Q S1 r1 g1)⟩
end
end Mr
namespace Mr
open PySem PySem.Spec PyProof.Rows L2
variable [Lam] [Pins]

mutual
def py : D → PyData
  | .non => .none
  | .bl b => .bool b
  | .int i => .int i
  | .str x => .str x
  | .tup xs => .tuple (pys xs)
  | .lst xs => .list (pys xs)
  | .frz xs => .list (pys xs)
  | .obj _ _ _ => .none
  | .dct _ _ => .none
  | .opq _ => .none
  | .any => .none
def pys : List D → List PyData
  | [] => []
  | x :: xs => py x :: pys xs
end
mutual
/-- plain data, at most so deep -/
def okD : Nat → D → Bool
  | _, .non => true
  | _, .bl _ => true
  | _, .int _ => true
  | _, .str _ => true
  | n, .tup xs => match n with | 0 => false | n + 1 => okDs n xs
  | n, .lst xs => match n with | 0 => false | n + 1 => okDs n xs
  | n, .frz xs => match n with | 0 => false | n + 1 => okDs n xs
  | _, .obj _ _ _ => false
  | _, .dct _ _ => false
  | _, .opq _ => false
  | _, .any => false
def okDs : Nat → List D → Bool
  | _, [] => true
  | n, x :: xs => okD n x && okDs n xs
end
mutual
theorem okD_py : ∀ (n : Nat) (d : D), okD n d = true → (py d).plain = true ∧ (py d).depth ≤ n
  | _, .non, _ => ⟨rfl, Nat.zero_le _⟩
  | _, .bl _, _ => ⟨rfl, Nat.zero_le _⟩
  | _, .int _, _ => ⟨rfl, Nat.zero_le _⟩
  | _, .str _, _ => ⟨rfl, Nat.zero_le _⟩
  | 0, .tup xs, h => by simp [okD] at h
  | n + 1, .tup xs, h => by
    have := okDs_py n xs (by simpa [okD] using h)
    exact ⟨by simpa [py, PyData.plain] using this.1, by simp only [py, PyData.depth]; omega⟩
  | 0, .lst xs, h => by simp [okD] at h
  | n + 1, .lst xs, h => by
    have := okDs_py n xs (by simpa [okD] using h)
    exact ⟨by simpa [py, PyData.plain] using this.1, by simp only [py, PyData.depth]; omega⟩
  | 0, .frz xs, h => by simp [okD] at h
  | n + 1, .frz xs, h => by
    have := okDs_py n xs (by simpa [okD] using h)
    exact ⟨by simpa [py, PyData.plain] using this.1, by simp only [py, PyData.depth]; omega⟩
  | _, .obj _ _ _, h => by simp [okD] at h
  | _, .dct _ _, h => by simp [okD] at h
  | _, .opq _, h => by simp [okD] at h
  | _, .any, h => by simp [okD] at h
theorem okDs_py : ∀ (n : Nat) (ds : List D), okDs n ds = true → PyData.plainAll (pys ds) = true ∧ PyData.depthAll (pys ds) ≤ n
  | _, [], _ => ⟨rfl, Nat.zero_le _⟩
  | n, x :: xs, h => by
    have h' : okD n x = true ∧ okDs n xs = true := by simpa [okDs] using h
    have a := okD_py n x h'.1
    have b := okDs_py n xs h'.2
    exact ⟨by simp [pys, PyData.plainAll, a.1, b.1], by simp only [pys, PyData.depthAll]; omega⟩
end
mutual
theorem rep_dp {K : PySem.W.Frag} {H : Hp} : ∀ {v : V} {d : D} (n : Nat), Rep K H v d → okD n d = true → Dp K H v (py d)
  | _, _, _, .non, _ => .non
  | _, _, _, .bl b, _ => .bl b
  | _, _, _, .int i, _ => .int i
  | _, _, _, .str x, _ => .str x
  | _, _, 0, .tup s r _, h => by simp [okD] at h
  | _, _, n + 1, .tup s r _, h => .tup s (reps_dp n r (by simpa [okD] using h))
  | _, _, 0, .lst s r, h => by simp [okD] at h
  | _, _, n + 1, .lst s r, h => .lst (.of s) (reps_dp n r (by simpa [okD] using h))
  | _, _, 0, .frz s r, h => by simp [okD] at h
  | _, _, n + 1, .frz s r, h => .lst s (reps_dp n r (by simpa [okD] using h))
  | _, _, _, .obj _ _ _ _, h => by simp [okD] at h
  | _, _, _, .dct _ _ _, h => by simp [okD] at h
  | _, _, _, .opq _, h => by simp [okD] at h
  | _, _, _, .any _ _, h => by simp [okD] at h
theorem reps_dp {K : PySem.W.Frag} {H : Hp} : ∀ {vs : List V} {ds : List D} (n : Nat), Reps K H vs ds → okDs n ds = true → DpAll K H vs (pys ds)
  | _, _, _, .nil, _ => .nil
  | _, _, n, .cons a r, h => by
    rw [okDs, Bool.and_eq_true] at h
    exact .cons (rep_dp n a h.1) (reps_dp n r h.2)
end
/-- == of data -/
def eqv (a b : D) : Bool := PyData.eqv (py a) (py b)

def addD : D → D → FR D
  | .int i, .int j => .ok (.int (i + j))
  | .str a, .str b => if a.length + b.length ≤ sizeLine then .ok (.str (a ++ b)) else .stuck
  | .tup xs, .tup ys => if xs.length + ys.length ≤ sizeLine then .ok (.tup (xs ++ ys)) else .stuck
  | .lst xs, .lst ys => if xs.length + ys.length ≤ sizeLine then .ok (.lst (xs ++ ys)) else .stuck
  | _, _ => .stuck
def subD : D → D → FR D
  | .int i, .int j => .ok (.int (i - j))
  | _, _ => .stuck
def mulOk (i j : Int) : Prop := (Builtin.Int.intBits i : Int) + (Builtin.Int.intBits j : Int) ≤ 134217728
/-- the checks by Nat, so that no literal is ever peeled -/
def mulB (i j : Int) : Bool := Nat.ble (Builtin.Int.intBits i + Builtin.Int.intBits j) 134217728
omit [Lam] [Pins] in
theorem mulB_iff (i j : Int) : mulB i j = true ↔ mulOk i j := by
  unfold mulB mulOk
  rw [Nat.ble_eq]
  omega
instance (i j : Int) : Decidable (mulOk i j) := decidable_of_iff _ (mulB_iff i j)
def fitB (m : Nat) : Int → Bool
  | .ofNat n => Nat.blt n m
  | .negSucc n => Nat.blt n m
omit [Lam] [Pins] in
theorem fitB_iff {m : Nat} {i : Int} : fitB m i = true ↔ -(m : Int) ≤ i ∧ i < m := by
  cases i with
  | ofNat n =>
    show Nat.blt n m = true ↔ _
    rw [Nat.blt_eq]
    show n < m ↔ -(m : Int) ≤ (n : Int) ∧ (n : Int) < m
    omega
  | negSucc n =>
    show Nat.blt n m = true ↔ _
    rw [Nat.blt_eq]
    omega
def I62 (i : Int) : Prop := -(2 ^ 62) ≤ i ∧ i < 2 ^ 62
def I63 (i : Int) : Prop := -(2 ^ 63) ≤ i ∧ i < 2 ^ 63
omit [Lam] [Pins] in
theorem fit62 (i : Int) : fitB 4611686018427387904 i = true ↔ I62 i := fitB_iff
omit [Lam] [Pins] in
theorem fit63 (i : Int) : fitB 9223372036854775808 i = true ↔ I63 i := fitB_iff
instance (i : Int) : Decidable (I62 i) := decidable_of_iff _ (fit62 i)
instance (i : Int) : Decidable (I63 i) := decidable_of_iff _ (fit63 i)
/-- a list (a tuple of at least one, twice or more often) times an int -/
def mulD : D → D → FR D
  | .int i, .int j => if mulOk i j then .ok (.int (i * j)) else .stuck
  | .lst xs, .int k => if I63 k ∧ xs.length * k.toNat ≤ sizeLine then .ok (.lst (List.replicate k.toNat xs).flatten) else .stuck
  | .tup xs, .int k => if k = 1 then .ok (.tup xs) else if xs ≠ [] ∧ -1000 ≤ k ∧ k ≤ 0 then .ok (.tup []) else if xs ≠ [] ∧ 2 ≤ k ∧ k ≤ 1000 ∧ xs.length ≤ 1000 then .ok (.tup (List.replicate k.toNat xs).flatten) else .stuck
  | _, _ => .stuck
def divOk (i j : Int) : Prop := j ≠ 0 ∧ Builtin.divisionGoesByPylong i j = false
instance (i j : Int) : Decidable (divOk i j) := inferInstanceAs (Decidable (_ ∧ _))
def divD : D → D → FR D
  | .int i, .int j => if divOk i j then .ok (.int (i.fdiv j)) else .stuck
  | _, _ => .stuck
def modD : D → D → FR D
  | .int i, .int j => if j ≠ 0 then .ok (.int (i.fmod j)) else .stuck
  | _, _ => .stuck
def powD : D → D → FR D
  | .int i, .int j => if 0 ≤ j ∧ (Builtin.Int.intBits i : Int) * j ≤ 2 ^ 27 then .ok (.int (i ^ j.toNat)) else .stuck
  | _, _ => .stuck
def negD : D → FR D
  | .int i => .ok (.int (-i))
  | _ => .stuck
def ltD : D → D → FR D
  | .int i, .int j => .ok (.bl (decide (i < j)))
  | .str a, .str b => .ok (.bl (decide (a.cps.toList < b.cps.toList)))
  | _, _ => .stuck
def leD : D → D → FR D
  | .int i, .int j => .ok (.bl (decide (i ≤ j)))
  | .str a, .str b => .ok (.bl (!decide (b.cps.toList < a.cps.toList)))
  | _, _ => .stuck
def gtD : D → D → FR D
  | .int i, .int j => .ok (.bl (decide (j < i)))
  | _, _ => .stuck
def geD : D → D → FR D
  | .int i, .int j => .ok (.bl (decide (j ≤ i)))
  | _, _ => .stuck
def eqD (a b : D) : FR D := if okD 12 a = true ∧ okD 12 b = true then .ok (.bl (eqv a b)) else .stuck
def neD (a b : D) : FR D := if okD 12 a = true ∧ okD 12 b = true then .ok (.bl (!eqv a b)) else .stuck
def isNon : D → Bool
  | .non => true
  | .opq v => decide (v = .non)
  | _ => false
def isD (a b : D) : FR D := match b with
  | .non => .ok (.bl (isNon a))
  | _ => .stuck
def isntD (a b : D) : FR D := match b with
  | .non => .ok (.bl (!isNon a))
  | _ => .stuck
/-- a text within a text -/
def subStr (a b : Str) : Bool := !(Builtin.Str.occurrences b a 0 b.length 1).isEmpty
def ninD : D → D → FR D
  | .str a, .str b => .ok (.bl (!subStr a b))
  | a, .tup xs => if okD 12 a = true ∧ okDs 12 xs = true then .ok (.bl (!xs.any fun y => eqv y a)) else .stuck
  | a, .lst xs => if okD 12 a = true ∧ okDs 12 xs = true then .ok (.bl (!xs.any fun y => eqv y a)) else .stuck
  | _, _ => .stuck
/-- what has places -/
def seqD : D → Option (List D)
  | .tup xs => some xs
  | .lst xs => some xs
  | .frz xs => some xs
  | _ => none
def lenD : List D → FR D
  | [.str x] => if x.length ≤ sizeLine then .ok (.int x.length) else .stuck
  | [.tup xs] => .ok (.int xs.length)
  | [.lst xs] => .ok (.int xs.length)
  | [.frz xs] => .ok (.int xs.length)
  | _ => .stuck
/-- the ints of data -/
def intsD : List D → Option (List Int)
  | [] => some []
  | .int i :: r => (intsD r).map (i :: ·)
  | _ => none
def blsD : List D → Option (List Bool)
  | [] => some []
  | .bl i :: r => (blsD r).map (i :: ·)
  | _ => none
def sumD : List D → FR D
  | [.lst xs] => match intsD xs with
    | some ns => .ok (.int ns.sum)
    | none => .stuck
  | _ => .stuck
def allD : List D → FR D
  | [.lst xs] => match blsD xs with
    | some bs => .ok (.bl (bs.all id))
    | none => .stuck
  | _ => .stuck
def anyD : List D → FR D
  | [.lst xs] => match blsD xs with
    | some bs => .ok (.bl (bs.any id))
    | none => .stuck
  | _ => .stuck
def tupleD : List D → FR D
  | [.lst xs] => .ok (.tup xs)
  | [.tup xs] => .ok (.tup xs)
  | _ => .stuck
def listD : List D → FR D
  | [.lst xs] => .ok (.lst xs)
  | [.tup xs] => .ok (.lst xs)
  | [.frz xs] => .ok (.lst xs)
  | _ => .stuck
def intD : List D → FR D
  | [.int i] => .ok (.int i)
  | [.bl b] => .ok (.int (if b then 1 else 0))
  | _ => .stuck
def absD : List D → FR D
  | [.int i] => .ok (.int (if i < 0 then -i else i))
  | _ => .stuck
def max2D : List D → FR D
  | [.int i, .int j] => .ok (.int (if j > i then j else i))
  | _ => .stuck
def min2D : List D → FR D
  | [.int i, .int j] => .ok (.int (if j < i then j else i))
  | _ => .stuck
/-- isinstance of a built-in class: the class's number is 0 int, 1 bool, 2 str, 3 tuple, 4 list, 5 dict -/
def isKind (T : String) : D → Option Bool
  | .non => if T = "int" ∨ T = "bool" ∨ T = "str" ∨ T = "tuple" ∨ T = "list" ∨ T = "dict" then some false else none
  | .bl _ => if T = "int" ∨ T = "bool" then some true else if T = "str" ∨ T = "tuple" ∨ T = "list" ∨ T = "dict" then some false else none
  | .int _ => if T = "int" then some true else if T = "bool" ∨ T = "str" ∨ T = "tuple" ∨ T = "list" ∨ T = "dict" then some false else none
  | .str _ => if T = "str" then some true else if T = "int" ∨ T = "bool" ∨ T = "tuple" ∨ T = "list" ∨ T = "dict" then some false else none
  | .tup _ => if T = "tuple" then some true else if T = "int" ∨ T = "bool" ∨ T = "str" ∨ T = "list" ∨ T = "dict" then some false else none
  | .lst _ => if T = "list" then some true else if T = "int" ∨ T = "bool" ∨ T = "str" ∨ T = "tuple" ∨ T = "dict" then some false else none
  | .dct _ _ => if T = "dict" then some true else if T = "int" ∨ T = "bool" ∨ T = "str" ∨ T = "tuple" ∨ T = "list" then some false else none
  | _ => none
def isiD : List D → FR D
  | [d, .opq (.ty T)] => match isKind T d with
    | some b => .ok (.bl b)
    | none => .stuck
  | _ => .stuck
def ixD : D → D → FR D
  | .str x, .int i => if x.length ≤ sizeLine then match atI x.cps.toList i with
    | some c => .ok (.str ⟨#[c]⟩)
    | none => .stuck
    else .stuck
  | .tup xs, .int i => match atI xs i with
    | some d => .ok d
    | none => .stuck
  | .lst xs, .int i => match atI xs i with
    | some d => .ok d
    | none => .stuck
  | .frz xs, .int i => match atI xs i with
    | some d => .ok d
    | none => .stuck
  | _, _ => .stuck
def cutD (xs : List D) (lo hi : Option Int) : List D := (xs.drop (HT.sIx xs.length 0 lo)).take (HT.sIx xs.length xs.length hi - HT.sIx xs.length 0 lo)
def sliceD (x : D) (lo hi : Option Int) : FR D := match x with
  | .tup xs => .ok (.tup (cutD xs lo hi))
  | .lst xs => .ok (.lst (cutD xs lo hi))
  | .frz xs => .ok (.lst (cutD xs lo hi))
  | .str z => if z.length ≤ sizeLine then .ok (.str (cutS z lo hi)) else .stuck
  | _ => .stuck

theorem intsD_map : ∀ ns : List Int, intsD (ns.map D.int) = some ns
  | [] => rfl
  | n :: r => by simp [intsD, intsD_map r]
theorem blsD_map : ∀ ns : List Bool, blsD (ns.map D.bl) = some ns
  | [] => rfl
  | n :: r => by simp [blsD, blsD_map r]
theorem reps_ints {K : PySem.W.Frag} {H : Hp} : ∀ {vs : List V} {ds : List D} {ns : List Int}, Reps K H vs ds → intsD ds = some ns → vs = ns.map V.int
  | _, _, _, .nil, e => by simp [intsD] at e; subst e; rfl
  | _, _, _, .cons h r, e => by
    cases h with
    | int i =>
      simp only [intsD, Option.map_eq_some_iff] at e
      obtain ⟨ns, e1, rfl⟩ := e
      rw [reps_ints r e1]; rfl
    | _ => simp [intsD] at e
theorem reps_bls {K : PySem.W.Frag} {H : Hp} : ∀ {vs : List V} {ds : List D} {ns : List Bool}, Reps K H vs ds → blsD ds = some ns → vs = ns.map V.bl
  | _, _, _, .nil, e => by simp [blsD] at e; subst e; rfl
  | _, _, _, .cons h r, e => by
    cases h with
    | bl i =>
      simp only [blsD, Option.map_eq_some_iff] at e
      obtain ⟨ns, e1, rfl⟩ := e
      rw [reps_bls r e1]; rfl
    | _ => simp [blsD] at e
theorem reps_at {K : PySem.W.Frag} {H : Hp} {vs : List V} {ds : List D} {i : Int} {d : D} (r : Reps K H vs ds) (h : atI ds i = some d) : ∃ v, atI vs i = some v ∧ Rep K H v d := by
  unfold atI at h ⊢
  rw [r.length]
  cases e : ixN ds.length i with
  | none => rw [e] at h; simp at h
  | some j =>
    rw [e] at h
    exact r.get j h

section
variable {X : Cx} {W : WX}
/-- t + u: what is made has no dict -/
def rCatN (K : PySem.W.Frag) : R2 := fun x y H Q => ∃ a b xs ys, x = .ref a ∧ y = .ref b ∧ SqT K H a xs ∧ SqT K H b ys ∧ xs.length + ys.length ≤ sizeLine ∧
  (xs = [] → Q (.ref b) H) ∧ (xs ≠ [] → ys = [] → Q (.ref a) H) ∧ ∀ p o, o.dict = none → H p = none → Q (.ref p) (upd H p (.frz o (.tup (xs ++ ys))))
theorem op_catN {X : Cx} : OpR X (binaryOp .Add) (rCatN X.K) := fun pins s σ H x y v u Q I rx ry ⟨a, b, xs, ys, ex, ey, ha, hb, hz, q0, q1, q2⟩ => by
  by_cases hx : xs = []
  · exact op_catA pins s σ H x y v u Q I rx ry ⟨a, b, xs, ys, ex, ey, ha, hb, hz, q0, q1, fun z => absurd hx z⟩
  by_cases hy : ys = []
  · exact op_catA pins s σ H x y v u Q I rx ry ⟨a, b, xs, ys, ex, ey, ha, hb, hz, q0, q1, fun _ z => absurd hy z⟩
  subst ex ey
  cases rx
  cases ry
  obtain ⟨its, r1, p1, _⟩ := I.tuple ha
  obtain ⟨its2, r2, p2, _⟩ := I.tuple hb
  refine HT.cat_tup p1 p2 (fun z => hx (r1.nil_iff.mp z)) (fun z => absurd (r2.nil_iff.mp z) hy) (fun z => ?_) (by rw [← r1.length, ← r2.length]; exact hz)
  exact ⟨.ref s.heap.objs.size, _, I.laid (t' := s.toks) (o := .frz _ (.tup (xs ++ ys))) (fun b ob q => Heap.get?_push_of_some _ q) (Nat.le_refl _) ⟨Heap.get?_push_size _ rfl, by rw [List.length_append]; exact hz, _, r1.append r2, IsTup.new _ _⟩, rfl, q2 _ _ rfl (I.hok.fresh (Nat.le_refl _))⟩
theorem OA.add : OA X W (binaryOp .Add) addD := by
  refine ⟨_, op_add.or (op_add_str.or (op_catN.or op_cat)), fun G σ H F ρ x y dx dy Q S rx ry hg => ?_⟩
  cases rx with
  | int i =>
    cases ry with
    | int j => exact .inl ⟨i, j, rfl, rfl, hg H F S Sm.refl _ (.int _)⟩
    | _ => exact hg.elim
  | str a =>
    cases ry with
    | str b =>
      simp only [addD] at hg
      by_cases hz : a.length + b.length ≤ sizeLine
      · rw [if_pos hz] at hg; exact .inr (.inl ⟨a, b, rfl, rfl, hz, hg H F S Sm.refl _ (.str _)⟩)
      · rw [if_neg hz] at hg; exact hg.elim
    | _ => exact hg.elim
  | tup hx rx hn =>
    cases ry with
    | tup hy ry hm =>
      simp only [addD] at hg
      split at hg
      · rename_i hz
        refine .inr (.inr (.inl ⟨_, _, _, _, rfl, rfl, SqTm S.sub hx, SqTm S.sub hy, ?_, fun e => ?_, fun _ e => ?_, fun p o hd hp => ?_⟩))
        · rw [rx.length, ry.length]; exact hz
        · subst e
          cases rx
          rw [List.nil_append] at hg
          exact hg H F S Sm.refl _ (.tup hy ry hm)
        · subst e
          cases ry
          rw [List.append_nil] at hg
          exact hg H F S Sm.refl _ (.tup hx rx hn)
        · exact newTup S (rx.append ry) hg hp hd
      · exact hg.elim
    | _ => exact hg.elim
  | lst hx rx =>
    cases ry with
    | lst hy ry =>
      simp only [addD] at hg
      split at hg
      · rename_i hz
        refine .inr (.inr (.inr ⟨_, _, _, _, rfl, rfl, S.sub _ _ hx, S.sub _ _ hy, ?_, fun p hp => ?_⟩))
        · rw [rx.length, ry.length]; exact hz
        · exact newLst S (rx.append ry) hg hp
      · exact hg.elim
    | _ => exact hg.elim
  | _ => exact hg.elim
theorem OA.ofI {f : Value → Value → Sem Value} {r : R2} (h : OpR X f r) {g : D → D → FR D} (hr : ∀ G σ H F ρ i j Q, Stt X.K G σ H F ρ → Good X.K G W σ F ((g (.int i) (.int j)).lift ρ) (PD X.K Q) → r (.int i) (.int j) H Q)
    (hs : ∀ dx dy, g dx dy = .stuck ∨ ∃ i j, dx = .int i ∧ dy = .int j) : OA X W f g := by
  refine ⟨r, h, fun G σ H F ρ x y dx dy Q S rx ry hg => ?_⟩
  rcases hs dx dy with e | ⟨i, j, rfl, rfl⟩
  · rw [e] at hg; exact hg.elim
  · cases rx; cases ry
    exact hr G σ H F ρ i j Q S hg
theorem OA.sub : OA X W (binaryOp .Sub) subD := .ofI op_sub (fun G σ H F ρ i j Q S hg => ⟨i, j, rfl, rfl, hg H F S Sm.refl _ (.int _)⟩) fun dx dy => by
  cases dx <;> cases dy <;> first | exact .inl rfl | exact .inr ⟨_, _, rfl, rfl⟩
theorem OA.mod : OA X W (binaryOp .Mod) modD := .ofI op_modN (fun G σ H F ρ i j Q S hg => by
    simp only [modD] at hg
    split at hg
    · rename_i hz; exact ⟨i, j, rfl, rfl, hz, hg H F S Sm.refl _ (.int _)⟩
    · exact hg.elim) fun dx dy => by
  cases dx <;> cases dy <;> first | exact .inl rfl | exact .inr ⟨_, _, rfl, rfl⟩
theorem op_fdivP : OpR X (binaryOp .FloorDiv) (rI divOk fun i j => .int (i.fdiv j)) := opI fun _ _ _ _ _ _ _ hc q => floordiv_int hc.1 q (.inl hc.2)
theorem OA.div : OA X W (binaryOp .FloorDiv) divD := .ofI op_fdivP (fun G σ H F ρ i j Q S hg => by
    simp only [divD] at hg
    split at hg
    · rename_i hz; exact ⟨i, j, rfl, rfl, hz, hg H F S Sm.refl _ (.int _)⟩
    · exact hg.elim) fun dx dy => by
  cases dx <;> cases dy <;> first | exact .inl rfl | exact .inr ⟨_, _, rfl, rfl⟩
theorem op_powP : OpR X (binaryOp .Pow) (rI (fun i j => 0 ≤ j ∧ (Builtin.Int.intBits i : Int) * j ≤ 2 ^ 27) fun i j => .int (i ^ j.toNat)) := opI fun _ _ _ _ _ _ _ hc q => pow_int hc.1 hc.2 q
theorem OA.pow : OA X W (binaryOp .Pow) powD := .ofI op_powP (fun G σ H F ρ i j Q S hg => by
    simp only [powD] at hg
    split at hg
    · rename_i hz; exact ⟨i, j, rfl, rfl, hz, hg H F S Sm.refl _ (.int _)⟩
    · exact hg.elim) fun dx dy => by
  cases dx <;> cases dy <;> first | exact .inl rfl | exact .inr ⟨_, _, rfl, rfl⟩
theorem reps_rep {K : PySem.W.Frag} {H : Hp} {vs : List V} {ds : List D} (r : Reps K H vs ds) : ∀ n : Nat, Reps K H (List.replicate n vs).flatten (List.replicate n ds).flatten
  | 0 => .nil
  | n + 1 => by
    rw [List.replicate_succ, List.replicate_succ, List.flatten_cons, List.flatten_cons]
    exact r.append (reps_rep r n)
end
theorem tuple_mulW1 (l : Addr) (items : Array Value) (n : Nat) (sl : Array (Option Value)) (dd : Option Addr) (u : Tok) :
    Meets (Builtin.«tuple.__mul__» ⟨[.ref l, .int 1 u], []⟩) (fun _ R s => s.heap.get? l = some { cls := .type "tuple", dict := dd, data := .seq items n, slots := sl } ∧
      R (.ok (.ret (Value.ref l))) s) :=
  .of_wp fun prog w A R s h => by
    obtain ⟨hp, g, d, tk, os⟩ := s
    obtain ⟨hl, h⟩ := h
    have f1 := AutoSeq1.idx_int
    wp_walk using wpAny_loadPart' hl
    exact ⟨_, rfl, h⟩
/-- a tuple times nothing -/
theorem tuple_mulW0 (l : Addr) (its : Array Value) (n : Nat) (sl : Array (Option Value)) (dd : Option Addr) (x : Int) (u : Tok) (lo : (decide (x < -(2 ^ 63)) || decide (x ≥ 2 ^ 63)) = false) (some_ : (its.isEmpty || x == 1) = false) (no : (decide (x ≤ 0) || its.isEmpty) = true) :
    Meets (Builtin.«tuple.__mul__» ⟨[.ref l, .int x u], []⟩) (fun _ R s => s.heap.get? l = some { cls := .type "tuple", dict := dd, data := .seq its n, slots := sl } ∧
      R (.ok (.ret (Value.ref s.heap.objs.size))) { s with heap := s.heap.push { cls := Value.type "tuple", data := Data.seq #[] }, toks := s.toks }) :=
  .of_wp fun prog w A R s h => by
    obtain ⟨hp, g, d, tk, os⟩ := s
    obtain ⟨at_l, h⟩ := h
    have ix := AutoSeq1.idx_int
    wp_walk using wpAny_loadPart' at_l
    repeat (first
      | (refine wpAny_ite_false (decide_eq_false (by rw [lo]; exact Bool.false_ne_true)) ?_; wp_walk using wpAny_loadPart' at_l)
      | (refine wpAny_ite_false (decide_eq_false (by rw [some_]; exact Bool.false_ne_true)) ?_; wp_walk using wpAny_loadPart' at_l)
      | (rw [if_pos no]; wp_walk using wpAny_loadPart' at_l)
      | (rw [if_pos (decide_eq_true no)]; wp_walk using wpAny_loadPart' at_l))
    exact ⟨_, rfl, h⟩
def rRepT0 (K : PySem.W.Frag) : R2 := fun x y H Q => ∃ l k xs, x = .ref l ∧ y = .int k ∧ SqT K H l xs ∧ xs ≠ [] ∧ -1000 ≤ k ∧ k ≤ 0 ∧ ∀ p, H p = none → Q (.ref p) (upd H p (.tup []))
theorem op_repT0 {X : Cx} : OpR X (binaryOp .Mult) (rRepT0 X.K) := by
  intro pins s σ H x y v u Q I rx ry h
  obtain ⟨l, k, xs, rfl, rfl, hT, hne, k1, k2, q⟩ := h
  cases rx
  obtain ⟨t, rfl⟩ := ry
  obtain ⟨its, r, ⟨⟨cls, dd, data, sl⟩, ho, hc, n, hd⟩, hs⟩ := I.tuple hT
  simp only at hc hd
  subst hc hd
  have ne : its.toArray.isEmpty = false := by
    cases its with
    | nil => exact absurd (List.eq_nil_of_length_eq_zero (by rw [r.length]; rfl)) hne
    | cons a b => rfl
  have c0 : (decide (k < -(2 ^ 63)) || decide (k ≥ 2 ^ 63)) = false := by
    simp only [Bool.or_eq_false_iff, decide_eq_false_iff_not]; omega
  have c1 : (its.toArray.isEmpty || k == 1) = false := by
    rw [ne]
    have : k ≠ 1 := by omega
    simp [this]
  have c2 : (decide (k ≤ 0) || its.toArray.isEmpty) = true := by simp [k2]
  refine wpAny_binaryOp_repeat_ref (T := "tuple") (U := "int") (by decide) ⟨_, ho, rfl⟩ (fun s' => typeIs_int s' k t) noFill_tuple_mul F.fills_int_mul F.slot_int_rmul repeat_tuple F.slot_int_index.lookup
    (call_meets F.slot_int_rmul (typeIs_int s k t) F.entry_int_rmul (F.args_int_rmul_2 _ _) (int_rmul_tuple k t l its.toArray n dd sl)
      ⟨ho, rfl, ⟨_, ho, rfl⟩, call_meets F.slot_tuple_mul ⟨_, ho, rfl⟩ F.entry_tuple_mul (F.args_tuple_mul_2 _ _) (tuple_mulW0 l its.toArray n sl dd k t c0 c1 c2) ⟨ho, ?_⟩⟩)
  have hf := I.hok.fresh (Nat.le_refl s.heap.objs.size)
  exact ⟨.ref s.heap.objs.size, upd H s.heap.objs.size (.tup []), I.laid (t' := s.toks) (fun b w e => Heap.get?_push_of_some _ e) (Nat.le_refl _) ⟨by show 0 ≤ sizeLine; decide, [], .nil, ⟨_, Heap.get?_push_size _ rfl, rfl, _, rfl⟩⟩, rfl, q _ hf⟩
/-- a tuple so many times: what is made has no dict -/
def rRepN (K : PySem.W.Frag) : R2 := fun x y H Q => ∃ l k xs, x = .ref l ∧ y = .int k ∧ SqT K H l xs ∧ xs ≠ [] ∧ 2 ≤ k ∧ k ≤ 1000 ∧ xs.length ≤ 1000 ∧ ∀ p o, o.dict = none → H p = none → Q (.ref p) (upd H p (.frz o (.tup (List.replicate k.toNat xs).flatten)))
theorem op_repN {X : Cx} : OpR X (binaryOp .Mult) (rRepN X.K) := fun pins s σ H x y v u Q I rx ry ⟨l, k, xs, ex, ey, hT, hne, h1, h2, hz, q⟩ => by
  subst ex ey
  cases rx
  obtain ⟨t, rfl⟩ := ry
  obtain ⟨its, r, ⟨⟨cls, dd, data, sl⟩, ho, hc, n, hd⟩, hs⟩ := I.tuple hT
  simp only at hc hd
  subst hc hd
  have hle : its.length = xs.length := r.length.symm
  have hi : its.toArray.isEmpty = false := by
    cases its with
    | nil => exact absurd (List.eq_nil_of_length_eq_zero (by rw [r.length]; rfl)) hne
    | cons a b => rfl
  have hsz0 : its.toArray.size = xs.length := by rw [List.size_toArray, hle]
  have hm : ((its.toArray.size : Nat) : Int) * k ≤ 1000000 := by
    rw [hsz0]
    have a1 : ((xs.length : Nat) : Int) * k ≤ 1000 * k := Int.mul_le_mul_of_nonneg_right (by omega) (by omega)
    omega
  have a1 : k.toNat * xs.length ≤ 1000 * 1000 := Nat.mul_le_mul (by omega) hz
  have flen : (List.replicate k.toNat its).flatten.length ≤ sizeLine := by
    rw [PyProof.Rows.lm_len_rep_flat, hle, sizeLine_eq]; omega
  have xlen : (List.replicate k.toNat xs).flatten.length ≤ sizeLine := by
    rw [PyProof.Rows.lm_len_rep_flat, sizeLine_eq]; omega
  have c0 : (decide (k < -(2 ^ 63)) || decide (k ≥ 2 ^ 63)) = false := by
    simp only [Bool.or_eq_false_iff, decide_eq_false_iff_not]; omega
  have c1 : (its.toArray.isEmpty || k == 1) = false := by
    rw [hi]
    have : k ≠ 1 := by omega
    simp [this]
  have c2 : (decide (k ≤ 0) || its.toArray.isEmpty) = false := by
    rw [hi, decide_eq_false (by omega)]; rfl
  have c4 : Builtin.Tuple.tupleTooMany (((its.toArray.size : Nat) : Int) * k) = false := by
    unfold Builtin.Tuple.tupleTooMany
    rw [sizeLine_eq]
    exact decide_eq_false (by omega)
  have hf := I.hok.fresh (Nat.le_refl s.heap.objs.size)
  refine wpAny_binaryOp_repeat_ref (T := "tuple") (U := "int") (by decide) ⟨_, ho, rfl⟩ (fun s' => typeIs_int s' k t) noFill_tuple_mul F.fills_int_mul F.slot_int_rmul repeat_tuple F.slot_int_index.lookup
    (call_meets F.slot_int_rmul (typeIs_int s k t) F.entry_int_rmul (F.args_int_rmul_2 _ _) (int_rmul_tuple k t l its.toArray n dd sl)
      ⟨ho, rfl, ⟨_, ho, rfl⟩, call_meets F.slot_tuple_mul ⟨_, ho, rfl⟩ F.entry_tuple_mul (F.args_tuple_mul_2 _ _) (tuple_mulW l its.toArray n dd sl k t c0 c1 c2 (by omega) c4 (by rw [size_rep, List.size_toArray]; exact flen)) ⟨ho, ?_⟩⟩)
  rw [size_rep]
  exact ⟨.ref s.heap.objs.size, _, I.laid (t' := s.toks) (o := .frz _ (.tup (List.replicate k.toNat xs).flatten)) (fun b w e => Heap.get?_push_of_some _ e) (Nat.le_refl _) ⟨Heap.get?_push_size _ rfl, xlen, _, r.rep k.toNat, IsTup.new _ _⟩, rfl, q _ _ rfl hf⟩
/-- a tuple times 1 is the tuple -/
def rRepT1 (K : PySem.W.Frag) : R2 := fun x y H Q => ∃ l xs, x = .ref l ∧ y = .int 1 ∧ SqT K H l xs ∧ Q (.ref l) H
theorem op_repT1 {X : Cx} : OpR X (binaryOp .Mult) (rRepT1 X.K) := by
  intro pins s σ H x y v u Q I rx ry h
  obtain ⟨l, xs, rfl, rfl, hT, q⟩ := h
  cases rx
  obtain ⟨t, rfl⟩ := ry
  obtain ⟨its, r, ⟨⟨cls, dd, data, sl⟩, ho, hc, n, hd⟩, hs⟩ := I.tuple hT
  simp only at hc hd
  subst hc hd
  refine wpAny_binaryOp_repeat_ref (T := "tuple") (U := "int") (by decide) ⟨_, ho, rfl⟩ (fun s' => typeIs_int s' 1 t) noFill_tuple_mul F.fills_int_mul F.slot_int_rmul repeat_tuple F.slot_int_index.lookup
    (call_meets F.slot_int_rmul (typeIs_int s 1 t) F.entry_int_rmul (F.args_int_rmul_2 _ _) (int_rmul_tuple 1 t l its.toArray n dd sl)
      ⟨ho, rfl, ⟨_, ho, rfl⟩, call_meets F.slot_tuple_mul ⟨_, ho, rfl⟩ F.entry_tuple_mul (F.args_tuple_mul_2 _ _) (tuple_mulW1 l its.toArray n sl dd t) ⟨ho, ?_⟩⟩)
  exact ⟨.ref l, H, I, rfl, q⟩
section
variable {X : Cx} {W : WX}
theorem OA.mul : OA X W (binaryOp .Mult) mulD := by
  refine ⟨_, op_mulX.or (op_rep.or (op_repN.or (op_repT1.or op_repT0))), fun G σ H F ρ x y dx dy Q S rx ry hg => ?_⟩
  cases rx with
  | int i =>
    cases ry with
    | int j =>
      simp only [mulD] at hg
      split at hg
      · rename_i hz; exact .inl ⟨i, j, rfl, rfl, hz, hg H F S Sm.refl _ (.int _)⟩
      · exact hg.elim
    | _ => exact hg.elim
  | lst hx rx =>
    cases ry with
    | int k =>
      simp only [mulD] at hg
      split at hg
      · rename_i hz
        exact .inr (.inl ⟨_, k, _, rfl, rfl, S.sub _ _ hx, hz.1.1, hz.1.2, by rw [rx.length]; exact hz.2, fun p hp => newLst S (reps_rep rx _) hg hp⟩)
      · exact hg.elim
    | _ => exact hg.elim
  | tup hx rx hn =>
    cases ry with
    | int k =>
      simp only [mulD] at hg
      split at hg
      · rename_i hz
        subst hz
        exact .inr (.inr (.inr (.inl ⟨_, _, rfl, rfl, SqTm S.sub hx, hg H F S Sm.refl _ (.tup hx rx hn)⟩)))
      split at hg
      · rename_i hz
        refine .inr (.inr (.inr (.inr ⟨_, k, _, rfl, rfl, SqTm S.sub hx, ?_, hz.2.1, hz.2.2, fun p hp => newTup0 S .nil hg hp rfl⟩)))
        intro e
        have := rx.length
        rw [e] at this
        exact hz.1 (List.eq_nil_of_length_eq_zero this.symm)
      split at hg
      · rename_i hz
        refine .inr (.inr (.inl ⟨_, k, _, rfl, rfl, SqTm S.sub hx, ?_, hz.2.1, hz.2.2.1, by rw [rx.length]; exact hz.2.2.2, fun p o hd hp => newTup S (reps_rep rx _) hg hp hd⟩))
        intro e
        have := rx.length
        rw [e] at this
        exact hz.1 (List.eq_nil_of_length_eq_zero this.symm)
      · exact hg.elim
    | _ => exact hg.elim
  | _ => exact hg.elim
theorem UA.neg : UA X W (unaryOp .USub) negD := by
  refine ⟨_, un_neg, fun G σ H F ρ x dx Q S rx hg => ?_⟩
  cases rx with
  | int i => exact ⟨i, rfl, hg H F S Sm.refl _ (.int _)⟩
  | _ => exact hg.elim
theorem op_le_str : OpR X (compareOp .LtE) (fun x y H Q => ∃ i j, x = .str i ∧ y = .str j ∧ Q (.bl (!decide (j.cps.toList < i.cps.toList))) H) := by
  intro pins s σ H x y v u Q I rx ry h
  obtain ⟨i, j, rfl, rfl, q⟩ := h
  obtain ⟨t, rfl⟩ := rx
  obtain ⟨t', rfl⟩ := ry
  exact PySem.P.le_str (fin_bl I q (by simp))
theorem OA.lt : OA X W (compareOp .Lt) ltD := by
  refine ⟨_, op_lt.or op_lt_str, fun G σ H F ρ x y dx dy Q S rx ry hg => ?_⟩
  cases rx with
  | int i =>
    cases ry with
    | int j => exact .inl ⟨i, j, rfl, rfl, hg H F S Sm.refl _ (.bl _)⟩
    | _ => exact hg.elim
  | str i =>
    cases ry with
    | str j => exact .inr ⟨i, j, rfl, rfl, hg H F S Sm.refl _ (.bl _)⟩
    | _ => exact hg.elim
  | _ => exact hg.elim
theorem OA.le : OA X W (compareOp .LtE) leD := by
  refine ⟨_, op_le.or op_le_str, fun G σ H F ρ x y dx dy Q S rx ry hg => ?_⟩
  cases rx with
  | int i =>
    cases ry with
    | int j => exact .inl ⟨i, j, rfl, rfl, hg H F S Sm.refl _ (.bl _)⟩
    | _ => exact hg.elim
  | str i =>
    cases ry with
    | str j => exact .inr ⟨i, j, rfl, rfl, hg H F S Sm.refl _ (.bl _)⟩
    | _ => exact hg.elim
  | _ => exact hg.elim
theorem OA.gt : OA X W (compareOp .Gt) gtD := .ofI op_gt (fun G σ H F ρ i j Q S hg => ⟨i, j, rfl, rfl, hg H F S Sm.refl _ (.bl _)⟩) fun dx dy => by
  cases dx <;> cases dy <;> first | exact .inl rfl | exact .inr ⟨_, _, rfl, rfl⟩
def rEqP (K : PySem.W.Frag) : R2 := fun x y H Q => ∃ d e, Dp K H x d ∧ Dp K H y e ∧ d.plain = true ∧ e.plain = true ∧ d.depth ≤ 12 ∧ Q (.bl (PyData.eqv d e)) H
def rNeP (K : PySem.W.Frag) : R2 := fun x y H Q => ∃ d e, Dp K H x d ∧ Dp K H y e ∧ d.plain = true ∧ e.plain = true ∧ d.depth ≤ 12 ∧ Q (.bl (!PyData.eqv d e)) H
theorem op_eqP (hu : X.A.units + 64 < cLine) : OpR X (compareOp .Eq) (rEqP X.K) := by
  intro pins s σ H x y v u Q I rx ry h
  obtain ⟨d, e, hd, he, sd, se, hz, q⟩ := h
  obtain ⟨as, r1⟩ := Dp.reads I d x v hd rx
  obtain ⟨bs, r2⟩ := Dp.reads I e y u he ry
  exact SeqAt.eq_plain r1 r2 sd se (by omega) ⟨.bl _, H, I, rfl, q⟩
theorem op_neP (hu : X.A.units + 64 < cLine) : OpR X (compareOp .NotEq) (rNeP X.K) := by
  intro pins s σ H x y v u Q I rx ry h
  obtain ⟨d, e, hd, he, sd, se, hz, q⟩ := h
  obtain ⟨as, r1⟩ := Dp.reads I d x v hd rx
  obtain ⟨bs, r2⟩ := Dp.reads I e y u he ry
  exact SeqAt.ne_plain r1 r2 sd se (by omega) ⟨.bl _, H, I, rfl, q⟩
theorem OA.eq (hu : X.A.units + 64 < cLine) : OA X W (compareOp .Eq) eqD := by
  refine ⟨_, op_eqP hu, fun G σ H F ρ x y dx dy Q S rx ry hg => ?_⟩
  unfold eqD at hg
  split at hg
  · rename_i hz
    have p1 := okD_py 12 dx hz.1
    have p2 := okD_py 12 dy hz.2
    exact ⟨py dx, py dy, rep_dp 12 (rx.mono S.sub) hz.1, rep_dp 12 (ry.mono S.sub) hz.2, p1.1, p2.1, p1.2, hg H F S Sm.refl _ (.bl _)⟩
  · exact hg.elim
theorem OA.ne (hu : X.A.units + 64 < cLine) : OA X W (compareOp .NotEq) neD := by
  refine ⟨_, op_neP hu, fun G σ H F ρ x y dx dy Q S rx ry hg => ?_⟩
  unfold neD at hg
  split at hg
  · rename_i hz
    have p1 := okD_py 12 dx hz.1
    have p2 := okD_py 12 dy hz.2
    exact ⟨py dx, py dy, rep_dp 12 (rx.mono S.sub) hz.1, rep_dp 12 (ry.mono S.sub) hz.2, p1.1, p2.1, p1.2, hg H F S Sm.refl _ (.bl _)⟩
  · exact hg.elim
def rNinP (K : PySem.W.Frag) : R2 := fun x y H Q => ∃ d xs, Dp K H x d ∧ (Dp K H y (.tuple xs) ∨ Dp K H y (.list xs)) ∧ d.plain = true ∧ PyData.plainAll xs = true ∧ d.depth ≤ 12 ∧ Q (.bl (!xs.any fun z => PyData.eqv z d)) H
theorem op_ninP (hu : X.A.units + 64 < cLine) : OpR X (compareOp .NotIn) (rNinP X.K) := by
  intro pins s σ H x y v u Q I rx ry h
  obtain ⟨d, xs, hd, he, sd, se, hz, q⟩ := h
  obtain ⟨as, r1⟩ := Dp.reads I d x v hd rx
  rcases he with he | he
  · obtain ⟨bs, r2⟩ := Dp.reads I _ y u he ry
    exact SeqAt.notIn_tuple_data r2 r1 se sd (by omega) ⟨.bl _, H, I, rfl, q⟩
  · obtain ⟨bs, r2⟩ := Dp.reads I _ y u he ry
    exact SeqAt.notIn_list_data r2 r1 se sd (by omega) ⟨.bl _, H, I, rfl, q⟩
theorem any_py (a : D) : ∀ xs : List D, (pys xs).any (fun z => PyData.eqv z (py a)) = xs.any fun y => eqv y a
  | [] => rfl
  | x :: xs => by simp only [pys, List.any_cons, any_py a xs, eqv]
theorem OA.notIn (hu : X.A.units + 64 < cLine) : OA X W (compareOp .NotIn) ninD := by
  refine ⟨_, op_notin_str.or (op_ninP hu), fun G σ H F ρ x y dx dy Q S rx ry hg => ?_⟩
  cases ry with
  | str b =>
    cases rx with
    | str a => exact .inl ⟨a, b, rfl, rfl, hg H F S Sm.refl _ (.bl _)⟩
    | _ => exact hg.elim
  | @tup a xs ds hy ry =>
    have hg : Good X.K G W σ F ((if okD 12 dx = true ∧ okDs 12 ds = true then FR.ok (D.bl (!ds.any fun y => eqv y dx)) else .stuck).lift ρ) (PD X.K Q) := by cases dx <;> exact hg
    split at hg
    · rename_i hz
      have p1 := okD_py 12 dx hz.1
      exact .inr ⟨py dx, pys ds, rep_dp 12 (rx.mono S.sub) hz.1, .inl (.tup (SqTm S.sub hy) (reps_dp 12 (ry.mono S.sub) hz.2)), p1.1, (okDs_py 12 ds hz.2).1, p1.2, by rw [any_py]; exact hg H F S Sm.refl _ (.bl _)⟩
    · exact hg.elim
  | @lst a xs ds hy ry =>
    have hg : Good X.K G W σ F ((if okD 12 dx = true ∧ okDs 12 ds = true then FR.ok (D.bl (!ds.any fun y => eqv y dx)) else .stuck).lift ρ) (PD X.K Q) := by cases dx <;> exact hg
    split at hg
    · rename_i hz
      have p1 := okD_py 12 dx hz.1
      exact .inr ⟨py dx, pys ds, rep_dp 12 (rx.mono S.sub) hz.1, .inr (.lst (.of (S.sub _ _ hy)) (reps_dp 12 (ry.mono S.sub) hz.2)), p1.1, (okDs_py 12 ds hz.2).1, p1.2, by rw [any_py]; exact hg H F S Sm.refl _ (.bl _)⟩
    · exact hg.elim
  | _ => cases dx <;> exact hg.elim
theorem reps1 {K : PySem.W.Frag} {F : Hp} {vs : List V} {d : D} (r : Reps K F vs [d]) : ∃ v, vs = [v] ∧ Rep K F v d := by
  cases r with
  | cons h r => cases r; exact ⟨_, rfl, h⟩
theorem reps2 {K : PySem.W.Frag} {F : Hp} {vs : List V} {d e : D} (r : Reps K F vs [d, e]) : ∃ v u, vs = [v, u] ∧ Rep K F v d ∧ Rep K F u e := by
  cases r with
  | cons h r =>
    obtain ⟨u, rfl, h2⟩ := reps1 r
    exact ⟨_, u, rfl, h, h2⟩
theorem CA.len : CA X W (.builtin "len") lenD := by
  refine ⟨_, call_len, fun G σ H F ρ vs ds Q S r hg => ?_⟩
  match ds, hg with
  | [.str x], hg =>
    obtain ⟨v, rfl, rv⟩ := reps1 r
    cases rv
    simp only [lenD] at hg
    split at hg
    · rename_i hz; exact ⟨_, x.length, rfl, ⟨hz, rfl⟩, hg H F S Sm.refl _ (.int _)⟩
    · exact hg.elim
  | [.tup xs], hg =>
    obtain ⟨v, rfl, rv⟩ := reps1 r
    cases rv with
    | tup hx rx => exact ⟨_, xs.length, rfl, .inr ⟨_, SqTm S.sub hx, rx.length.symm⟩, hg H F S Sm.refl _ (.int _)⟩
  | [.lst xs], hg =>
    obtain ⟨v, rfl, rv⟩ := reps1 r
    cases rv with
    | lst hx rx => exact ⟨_, xs.length, rfl, .inl ⟨_, .of (S.sub _ _ hx), rx.length.symm⟩, hg H F S Sm.refl _ (.int _)⟩
  | [.frz xs], hg =>
    obtain ⟨v, rfl, rv⟩ := reps1 r
    cases rv with
    | frz hx rx => exact ⟨_, xs.length, rfl, .inl ⟨_, SqLm S.sub hx, rx.length.symm⟩, hg H F S Sm.refl _ (.int _)⟩
  | [], hg => exact hg.elim
  | _ :: _ :: _, hg => exact (by simp only [lenD] at hg; exact hg.elim)
  | [.non], hg => exact hg.elim
  | [.bl _], hg => exact hg.elim
  | [.int _], hg => exact hg.elim
  | [.obj _ _ _], hg => exact hg.elim
  | [.dct _ _], hg => exact hg.elim
  | [.opq _], hg => exact hg.elim
  | [.any], hg => exact hg.elim
theorem one_lst {g : List D → FR D} {h : List D → FR D} (e : ∀ ds, g ds = match ds with | [.lst xs] => h xs | _ => .stuck) {K : PySem.W.Frag} {G : Ent} {σ : St} {H F : Hp} {ρ : Ro} {vs : List V} {ds : List D} {Q : VK} (S : Stt K G σ H F ρ) (r : Reps K F vs ds)
    (hg : Good K G W σ F ((g ds).lift ρ) (PD K Q)) : ∃ a ws xs, vs = [V.ref a] ∧ H a = some (.lst ws) ∧ Reps K F ws xs ∧ Good K G W σ F ((h xs).lift ρ) (PD K Q) := by
  rw [e] at hg
  split at hg
  · obtain ⟨v, rfl, rv⟩ := reps1 r
    cases rv with
    | lst hx rx => exact ⟨_, _, _, rfl, S.sub _ _ hx, rx, hg⟩
  · exact hg.elim
theorem CA.sum (hc : X.calm = true) : CA X W (.builtin "sum") sumD := by
  refine ⟨_, cr_sum hc, fun G σ H F ρ vs ds Q S r hg => ?_⟩
  obtain ⟨a, ws, xs, rfl, h1, h2, h3⟩ := one_lst (h := fun xs => match intsD xs with | some ns => .ok (.int ns.sum) | none => .stuck) (fun ds => by unfold sumD; split <;> rfl) S r hg
  cases e : intsD xs with
  | none => rw [e] at h3; exact h3.elim
  | some ns =>
    rw [e] at h3
    rw [reps_ints h2 e] at h1
    exact ⟨a, ns, rfl, .of h1, h3 H F S Sm.refl _ (.int _)⟩
theorem CA.all (hc : X.calm = true) : CA X W (.builtin "all") allD := by
  refine ⟨_, cr_all hc, fun G σ H F ρ vs ds Q S r hg => ?_⟩
  obtain ⟨a, ws, xs, rfl, h1, h2, h3⟩ := one_lst (h := fun xs => match blsD xs with | some ns => .ok (.bl (ns.all id)) | none => .stuck) (fun ds => by unfold allD; split <;> rfl) S r hg
  cases e : blsD xs with
  | none => rw [e] at h3; exact h3.elim
  | some ns =>
    rw [e] at h3
    rw [reps_bls h2 e] at h1
    exact ⟨a, ns, rfl, .of h1, h3 H F S Sm.refl _ (.bl _)⟩
theorem CA.any (hc : X.calm = true) : CA X W (.builtin "any") anyD := by
  refine ⟨_, cr_any hc, fun G σ H F ρ vs ds Q S r hg => ?_⟩
  obtain ⟨a, ws, xs, rfl, h1, h2, h3⟩ := one_lst (h := fun xs => match blsD xs with | some ns => .ok (.bl (ns.any id)) | none => .stuck) (fun ds => by unfold anyD; split <;> rfl) S r hg
  cases e : blsD xs with
  | none => rw [e] at h3; exact h3.elim
  | some ns =>
    rw [e] at h3
    rw [reps_bls h2 e] at h1
    exact ⟨a, ns, rfl, .of h1, h3 H F S Sm.refl _ (.bl _)⟩
/-- tuple(xs): what is made has no dict -/
theorem call_tupleN : CallR X (.type "tuple") (fun xs H Q => ∃ p ys, xs = [.ref p] ∧ ((SqL X.K H p ys ∧ ∀ l o, o.dict = none → H l = none → Q (.ref l) (upd H l (.frz o (.tup ys)))) ∨ (SqT X.K H p ys ∧ Q (.ref p) H))) := fun pins s σ H xs us Q I r ⟨p, ys, ex, h⟩ => by
  rcases h with ⟨hq, q⟩ | h
  · subst ex
    obtain ⟨u, rfl, rx⟩ := vals1 r
    cases rx
    obtain ⟨its, rv, pl, hz⟩ := I.list hq
    have hlen := rv.length
    exact call_tuple_list pl.isList (fun h' kp => by
      have I1 : Inv X pins σ H { s with heap := h' } := I.kept (t' := s.toks) kp
      have g : (h'.push (tupO its)).get? h'.objs.size = some (tupO its) := Heap.get?_push_size _ rfl
      exact ⟨.ref h'.objs.size, _, I1.laid (t' := s.toks) (o := .frz (tupO its) (.tup ys)) (fun b o e => Heap.get?_push_of_some _ e) (Nat.le_refl _) ⟨g, hz, its, rv, ⟨_, g, rfl, _, rfl⟩⟩, rfl, q _ _ rfl (I1.hok.fresh (Nat.le_refl _))⟩) (by simp only [List.size_toArray] <;> omega)
  · exact call_tuple_of pins s σ H xs us Q I r ⟨p, ys, ex, .inr h⟩
theorem CA.tuple : CA X W (.type "tuple") tupleD := by
  refine ⟨_, call_tupleN, fun G σ H F ρ vs ds Q S r hg => ?_⟩
  unfold tupleD at hg
  split at hg
  · obtain ⟨v, rfl, rv⟩ := reps1 r
    cases rv with
    | lst hx rx => exact ⟨_, _, rfl, .inl ⟨.of (S.sub _ _ hx), fun l o hd hl => newTup S rx hg hl hd⟩⟩
  · obtain ⟨v, rfl, rv⟩ := reps1 r
    cases rv with
    | tup hx rx hn => exact ⟨_, _, rfl, .inr ⟨SqTm S.sub hx, hg H F S Sm.refl _ (.tup hx rx hn)⟩⟩
  · exact hg.elim
theorem CA.list : CA X W (.type "list") listD := by
  refine ⟨_, call_list_of, fun G σ H F ρ vs ds Q S r hg => ?_⟩
  unfold listD at hg
  split at hg
  · obtain ⟨v, rfl, rv⟩ := reps1 r
    cases rv with
    | lst hx rx => exact ⟨_, _, rfl, .inl (.of (S.sub _ _ hx)), fun l hl => newLst S rx hg hl⟩
  · obtain ⟨v, rfl, rv⟩ := reps1 r
    cases rv with
    | tup hx rx => exact ⟨_, _, rfl, .inr (SqTm S.sub hx), fun l hl => newLst S rx hg hl⟩
  · obtain ⟨v, rfl, rv⟩ := reps1 r
    cases rv with
    | frz hx rx => exact ⟨_, _, rfl, .inl (SqLm S.sub hx), fun l hl => newLst S rx hg hl⟩
  · exact hg.elim
theorem CA.int : CA X W (.type "int") intD := by
  refine ⟨_, call_int1, fun G σ H F ρ vs ds Q S r hg => ?_⟩
  unfold intD at hg
  split at hg
  · obtain ⟨v, rfl, rv⟩ := reps1 r
    cases rv
    exact .inl ⟨_, rfl, hg H F S Sm.refl _ (.int _)⟩
  · obtain ⟨v, rfl, rv⟩ := reps1 r
    cases rv
    exact .inr ⟨_, rfl, hg H F S Sm.refl _ (.int _)⟩
  · exact hg.elim
theorem CA.abs : CA X W (.builtin "abs") absD := by
  refine ⟨_, call_abs, fun G σ H F ρ vs ds Q S r hg => ?_⟩
  unfold absD at hg
  split at hg
  · obtain ⟨v, rfl, rv⟩ := reps1 r
    cases rv
    exact ⟨_, rfl, hg H F S Sm.refl _ (.int _)⟩
  · exact hg.elim
theorem CA.max2 (hc : X.calm = true) : CA X W (.builtin "max") max2D := by
  refine ⟨_, call_max2 hc, fun G σ H F ρ vs ds Q S r hg => ?_⟩
  unfold max2D at hg
  split at hg
  · obtain ⟨v, u, rfl, rv, ru⟩ := reps2 r
    cases rv; cases ru
    exact ⟨_, _, rfl, hg H F S Sm.refl _ (.int _)⟩
  · exact hg.elim
theorem CA.min2 (hc : X.calm = true) : CA X W (.builtin "min") min2D := by
  refine ⟨_, call_min2 hc, fun G σ H F ρ vs ds Q S r hg => ?_⟩
  unfold min2D at hg
  split at hg
  · obtain ⟨v, u, rfl, rv, ru⟩ := reps2 r
    cases rv; cases ru
    exact ⟨_, _, rfl, hg H F S Sm.refl _ (.int _)⟩
  · exact hg.elim
/-- isinstance of a built-in class -/
def tyN : D → Option String
  | .non => some "NoneType" | .bl _ => some "bool" | .int _ => some "int" | .str _ => some "str" | .tup _ => some "tuple" | .lst _ => some "list" | .dct _ _ => some "dict" | _ => none
theorem isKind_kit {K : PySem.W.Frag} {T : String} {d : D} {b : Bool} (h : isKind T d = some b) : ∃ t, tyN d = some t ∧ kitB t T = some b := by
  have key0 : ∀ t ∈ ["NoneType", "bool", "int", "str", "tuple", "list", "dict"], ∀ T ∈ ["int", "bool", "str", "tuple", "list", "dict"], kitB t T = some (decide (t = T) || decide (t = "bool" ∧ T = "int")) := by decide +kernel
  have key : ∀ t T : String, t ∈ ["NoneType", "bool", "int", "str", "tuple", "list", "dict"] → T ∈ ["int", "bool", "str", "tuple", "list", "dict"] → kitB t T = some (decide (t = T) || decide (t = "bool" ∧ T = "int")) := fun t T h1 h2 => key0 t h1 T h2
  cases d with
  | non =>
    refine ⟨_, rfl, ?_⟩
    simp only [isKind] at h
    split at h
    · rename_i hT; cases h
      rcases hT with rfl | rfl | rfl | rfl | rfl | rfl <;> exact key _ _ (by decide) (by decide)
    · cases h
  | bl _ =>
    refine ⟨_, rfl, ?_⟩
    simp only [isKind] at h
    split at h
    · rename_i hT; cases h
      rcases hT with rfl | rfl <;> exact key _ _ (by decide) (by decide)
    · split at h
      · rename_i hT; cases h
        rcases hT with rfl | rfl | rfl | rfl <;> exact key _ _ (by decide) (by decide)
      · cases h
  | int _ =>
    refine ⟨_, rfl, ?_⟩
    simp only [isKind] at h
    split at h
    · rename_i hT; cases h
      subst hT; exact key _ _ (by decide) (by decide)
    · split at h
      · rename_i hT; cases h
        rcases hT with rfl | rfl | rfl | rfl | rfl <;> exact key _ _ (by decide) (by decide)
      · cases h
  | str _ =>
    refine ⟨_, rfl, ?_⟩
    simp only [isKind] at h
    split at h
    · rename_i hT; cases h
      subst hT; exact key _ _ (by decide) (by decide)
    · split at h
      · rename_i hT; cases h
        rcases hT with rfl | rfl | rfl | rfl | rfl <;> exact key _ _ (by decide) (by decide)
      · cases h
  | tup _ =>
    refine ⟨_, rfl, ?_⟩
    simp only [isKind] at h
    split at h
    · rename_i hT; cases h
      subst hT; exact key _ _ (by decide) (by decide)
    · split at h
      · rename_i hT; cases h
        rcases hT with rfl | rfl | rfl | rfl | rfl <;> exact key _ _ (by decide) (by decide)
      · cases h
  | lst _ =>
    refine ⟨_, rfl, ?_⟩
    simp only [isKind] at h
    split at h
    · rename_i hT; cases h
      subst hT; exact key _ _ (by decide) (by decide)
    · split at h
      · rename_i hT; cases h
        rcases hT with rfl | rfl | rfl | rfl | rfl <;> exact key _ _ (by decide) (by decide)
      · cases h
  | frz _ => cases h
  | obj _ _ _ => cases h
  | dct _ _ =>
    refine ⟨_, rfl, ?_⟩
    simp only [isKind] at h
    split at h
    · rename_i hT; cases h
      subst hT; exact key _ _ (by decide) (by decide)
    · split at h
      · rename_i hT; cases h
        rcases hT with rfl | rfl | rfl | rfl | rfl <;> exact key _ _ (by decide) (by decide)
      · cases h
  | opq _ => cases h
  | any => cases h
theorem tyx_of {K : PySem.W.Frag} {H : Hp} {v : V} {d : D} {t : String} (r : Rep K H v d) (h : tyN d = some t) : TyX K H v (.type t) := by
  cases r with
  | non => cases h; exact .base .non
  | bl b => cases h; exact .base (.bl b)
  | int i => cases h; exact .base (.int i)
  | str x => cases h; exact .base (.str x)
  | tup s r =>
    cases h
    rcases s with (s | ⟨o, s⟩) | ⟨o, its, n, hk, hc, _⟩
    · exact .base (.tup s)
    · exact .fTuple s
    · exact .kTuple hk hc
  | lst s r => cases h; exact .base (.lst s)
  | frz s r => cases h
  | obj _ _ _ _ => cases h
  | dct s _ _ => cases h; exact .base (.dK s)
  | opq v => cases h
  | any => cases h
theorem CA.isi : CA X W (.builtin "isinstance") isiD := by
  refine ⟨_, call_isi, fun G σ H F ρ vs ds Q S r hg => ?_⟩
  unfold isiD at hg
  split at hg
  · rename_i d T
    obtain ⟨v, u, rfl, rv, ru⟩ := reps2 r
    cases ru
    cases e : isKind T d with
    | none => rw [e] at hg; exact hg.elim
    | some b =>
      rw [e] at hg
      obtain ⟨t, e1, e2⟩ := isKind_kit (K := X.K) e
      exact ⟨v, .ty T, .type t, .type T, b, rfl, .ty T, tyx_of (rv.mono S.sub) e1, kit_ty e2, hg H F S Sm.refl _ (.bl b)⟩
  · exact hg.elim
variable {a b e : Expr} {fa fb fl fh : M D} {pos : Pos}
theorem IxR.or {r r' : R2} (h : IxR X r) (h' : IxR X r') : IxR X (fun x y H Q => r x y H Q ∨ r' x y H Q) := by
  intro value slice pins s σ H x y v u Q I rx ry q hs
  rcases q with q | q
  · exact h value slice pins s σ H x y v u Q I rx ry q hs
  · exact h' value slice pins s σ H x y v u Q I rx ry q hs
theorem AE.ix (ha : AE X W a fa) (hb : AE X W b fb) (hs : PlainIx b := by exact fun _ _ => rfl) : AE X W (.Subscript a b pos) (m2 ixD fa fb) := by
  obtain ⟨ta, pa, qa⟩ := ha
  obtain ⟨tb, pb, qb⟩ := hb
  refine ⟨_, pe_ix (IxR.or ix_list (IxR.or ix_tup ix_str)) pa pb hs, fun G σ H F ρ Q S hg => qa G σ H F ρ _ S (hg.bind fun dx ρ1 H1 F1 S1 s1 g1 v r1 => qb G σ H1 F1 ρ1 _ S1 (g1.bind fun dy ρ2 H2 F2 S2 s2 g2 u r2 => ?_))⟩
  have r1 := r1.mono s2
  cases r2 with
  | int i =>
    cases r1 with
    | str x =>
      simp only [ixD] at g2
      split at g2
      · rename_i hz
        split at g2
        · rename_i c hc
          exact .inr (.inr ⟨x, i, c, rfl, rfl, hz, hc, g2 H2 F2 S2 Sm.refl _ (.str _)⟩)
        · exact g2.elim
      · exact g2.elim
    | tup hx rx =>
      simp only [ixD] at g2
      split at g2
      · rename_i d hd
        obtain ⟨w, e1, rw_⟩ := reps_at rx hd
        exact .inr (.inl ⟨_, _, i, w, rfl, rfl, SqTm S2.sub hx, e1, g2 H2 F2 S2 Sm.refl _ rw_⟩)
      · exact g2.elim
    | lst hx rx =>
      simp only [ixD] at g2
      split at g2
      · rename_i d hd
        obtain ⟨w, e1, rw_⟩ := reps_at rx hd
        exact .inl ⟨_, _, i, w, rfl, rfl, .of (S2.sub _ _ hx), e1, g2 H2 F2 S2 Sm.refl _ rw_⟩
      · exact g2.elim
    | frz hx rx =>
      simp only [ixD] at g2
      split at g2
      · rename_i d hd
        obtain ⟨w, e1, rw_⟩ := reps_at rx hd
        exact .inl ⟨_, _, i, w, rfl, rfl, SqLm S2.sub hx, e1, g2 H2 F2 S2 Sm.refl _ rw_⟩
      · exact g2.elim
    | _ => exact g2.elim
  | _ => exact (by cases dx <;> exact g2.elim)
/-- an end of a slice -/
def AO (X : Cx) (W : WX) (e : Option Expr) (f : M (Option Int)) : Prop := ∃ t, PO X e t ∧ ∀ G σ H F ρ Q, Stt X.K G σ H F ρ → Good X.K G W σ F (f ρ) (fun o _ H' _ => Q o H') → t σ H Q
def mONone : M (Option Int) := fun ρ => .ok none ρ
def mOSome (f : M D) : M (Option Int) := fun ρ => (f ρ).bind fun d ρ => match d with
  | .int i => .ok (some i) ρ
  | _ => .stuck
theorem AO.none : AO X W none mONone := ⟨_, po_none, fun G σ H F ρ Q S hg => hg H F S Sm.refl⟩
theorem AO.some (h : AE X W e fa) : AO X W (some e) (mOSome fa) := by
  obtain ⟨t, p, q⟩ := h
  refine ⟨_, po_some p, fun G σ H F ρ Q S hg => q G σ H F ρ _ S (hg.bind fun d ρ1 H1 F1 S1 s1 g1 v r1 => ?_)⟩
  cases r1 with
  | int i => exact ⟨i, rfl, g1 H1 F1 S1 Sm.refl⟩
  | _ => exact g1.elim
def mSlice (f : M D) (l h : M (Option Int)) : M D := fun ρ => (f ρ).bind fun x ρ => (l ρ).bind fun lo ρ => (h ρ).bind fun hi ρ => (sliceD x lo hi).lift ρ
theorem reps_cut {K : PySem.W.Frag} {H : Hp} {vs : List V} {ds : List D} (r : Reps K H vs ds) (lo hi : Option Int) : Reps K H (cutV vs lo hi) (cutD ds lo hi) := by
  unfold cutV cutD
  rw [r.length]
  exact (r.drop _).take _
theorem cutD_whole {ds : List D} {lo hi : Option Int} (h : HT.sIx ds.length 0 lo = 0 ∧ HT.sIx ds.length ds.length hi = ds.length) : cutD ds lo hi = ds := by
  unfold cutD
  rw [h.1, h.2]
  simp
/-- t[lo:hi]: what is made has no dict -/
def rSlN (K : PySem.W.Frag) : V → Option Int → Option Int → Hp → VK → Prop := fun x lo hi H Q => ∃ a xs, x = .ref a ∧ SqT K H a xs ∧
  (HT.sIx xs.length 0 lo = 0 ∧ HT.sIx xs.length xs.length hi = xs.length → Q (.ref a) H) ∧ ∀ p o, o.dict = none → H p = none → Q (.ref p) (upd H p (.frz o (.tup (cutV xs lo hi))))
theorem sl_tupN : SlR X (rSlN X.K) := fun pins s σ H x v vl vu lo hi sl Q I rx hs pl pu ⟨a, xs, ex, hx, q1, q2⟩ => by
  by_cases hw : HT.sIx xs.length 0 lo = 0 ∧ HT.sIx xs.length xs.length hi = xs.length
  · exact sl_tupA pins s σ H x v vl vu lo hi sl Q I rx hs pl pu ⟨a, xs, ex, hx, q1, fun z => absurd hw z⟩
  · subst ex
    cases rx
    obtain ⟨its, r, ht, hz⟩ := I.tuple hx
    have hlen : its.toArray.size = xs.length := by rw [List.size_toArray]; exact r.length.symm
    refine ⟨"tuple", _, PyProof.Rows.slot_tuple_getitem.lookup, ht.typeIs, HT.getItem_tuple_cut ht hs pl pu (by rw [hlen]; exact hw) ?_ (by rw [hlen]; exact hz)⟩
    rw [hlen]
    have r' := (r.drop (HT.sIx xs.length 0 lo)).take (HT.sIx xs.length xs.length hi - HT.sIx xs.length 0 lo)
    exact ⟨.ref s.heap.objs.size, _, I.laid (t' := s.toks) (o := .frz _ (.tup (cutV xs lo hi))) (fun b ob q => Heap.get?_push_of_some _ q) (Nat.le_refl _) ⟨Heap.get?_push_size _ rfl, Nat.le_trans (cutV_length xs lo hi) hz, _, r', IsTup.new _ _⟩, rfl, q2 _ _ rfl (I.hok.fresh (Nat.le_refl _))⟩
theorem AE.slice {lo hi : Option Expr} {p2 : Pos} {ml mh : M (Option Int)} (he : AE X W e fa) (hl : AO X W lo ml) (hh : AO X W hi mh) : AE X W (.Subscript e (.Slice lo hi Option.none p2) pos) (mSlice fa ml mh) := by
  obtain ⟨t, p, q⟩ := he
  obtain ⟨tl, pl, ql⟩ := hl
  obtain ⟨th, ph, qh⟩ := hh
  refine ⟨_, pe_slice (sl_list.or (sl_tupN.or sl_str)) p pl ph, fun G σ H F ρ Q S hg => q G σ H F ρ _ S (hg.bind fun d ρ1 H1 F1 S1 s1 g1 v r1 => ql G σ H1 F1 ρ1 _ S1 (g1.bind fun o ρ2 H2 F2 S2 s2 g2 => qh G σ H2 F2 ρ2 _ S2 (g2.bind fun o' ρ3 H3 F3 S3 s3 g3 => ?_)))⟩
  have r1 := r1.mono (s2.tr s3)
  cases r1 with
  | tup hx rx hn =>
    refine .inr (.inl ⟨_, _, rfl, SqTm S3.sub hx, fun h => ?_, fun p ob hd hp => newTup S3 (reps_cut rx o o') g3 hp hd⟩)
    rw [rx.length] at h
    have g3 : Good X.K G W σ F3 (.ok (.tup (cutD _ o o')) ρ3) (PD X.K Q) := g3
    rw [cutD_whole h] at g3
    exact g3 H3 F3 S3 Sm.refl _ (.tup hx rx hn)
  | lst hx rx => exact .inl ⟨_, _, rfl, .of (S3.sub _ _ hx), fun p hp => newLst S3 (reps_cut rx o o') g3 hp⟩
  | frz hx rx => exact .inl ⟨_, _, rfl, SqLm S3.sub hx, fun p hp => newLst S3 (reps_cut rx o o') g3 hp⟩
  | str z =>
    simp only [sliceD] at g3
    split at g3
    · rename_i hz
      exact .inr (.inr ⟨z, rfl, hz, g3 H3 F3 S3 Sm.refl _ (.str _)⟩)
    · exact g3.elim
  | _ => exact g3.elim
end
end Mr
namespace Mr
open PySem PySem.Spec PyProof.Rows L2
variable [Lam] [Pins]

/-- ds come, one a turn, in every later state -/
def ItOk (K : PySem.W.Frag) (J : It) (F : Hp) (ds : List D) : Prop :=
  ∀ (i : Nat) (H F' : Hp), Sm F F' → Sm F' H → (ds.length = i → J.stop i H) ∧ ∀ d, ds[i]? = some d → J.go i H ∧ ∀ x H', J.yld i H x H' → ∃ F'', Aft K H F' H' F'' ∧ Rep K F'' x d
theorem ItOk.mono {K : PySem.W.Frag} {J : It} {F F1 : Hp} {ds : List D} (h : ItOk K J F ds) (s : Sm F F1) : ItOk K J F1 ds := fun i H F' s1 s2 => h i H F' (s.tr s1) s2
theorem Aft.refl {K : PySem.W.Frag} {H F : Hp} (s : Sm F H) : Aft K H F H F := ⟨Sm.refl.t, s, Sm.refl, fun _ _ e => .inl e, id⟩
theorem Aft.tup {K : PySem.W.Frag} {H F : Hp} (s : Sm F H) {p : Addr} {o : HO} (hp : H p = none) (ho : isTb o = false := by rfl) : Aft K H F (upd H p o) (upd F p o) :=
  ⟨(Sm.updN hp).t, fun a u h => by
    by_cases e : a = p
    · subst e; rw [upd_same] at h ⊢; exact h
    · rw [upd_ne e] at h ⊢; exact s a u h, Sm.updN (s.none hp), fun a u h => by
    by_cases e : a = p
    · subst e; exact .inr (.of hp)
    · rw [upd_ne e] at h; exact .inl h, fun z => z.upd ho⟩
def AI (X : Cx) (W : WX) (tg it : Expr) (f : M (List D)) : Prop :=
  ∃ wi, PI X tg it wi ∧ ∀ G σ H F ρ R, Stt X.K G σ H F ρ → Good X.K G W σ F (f ρ) (fun ds _ H' F' => ∀ J, ItOk X.K J F' ds → R J H') → wi σ H R

/-- what a for walks: a list, a tuple, a text -/
def walkD : D → FR (List D)
  | .lst xs => .ok xs
  | .frz xs => .ok xs
  | .tup xs => .ok xs
  | .str x => .ok (x.cps.toList.map fun c => .str ⟨#[c]⟩)
  | _ => .stuck
def mWalk (f : M D) : M (List D) := fun ρ => (f ρ).bind fun x ρ => (walkD x).lift ρ
def rangeD (lo hi : Int) : List D := (List.range (hi - lo).toNat).map fun (k : Nat) => .int (lo + (k : Int))
def range1D : List D → FR (List D)
  | [.int j] => if I62 j then .ok (rangeD 0 j) else .stuck
  | _ => .stuck
def range2D : List D → FR (List D)
  | [.int i, .int j] => if I62 i ∧ I62 j then .ok (rangeD i j) else .stuck
  | _ => .stuck
/-- an item of a zip: of two texts it is not told that its object has no dict, so no tuple is told -/
def pairD : D → D → D
  | .str _, .str _ => .any
  | x, y => .tup [x, y]
theorem nmD_two {x y : D} (h : ∀ a b, x = .str a → y = .str b → False) : nmD [x, y] = false := by
  unfold nmD
  cases x with
  | str a =>
    cases y with
    | str b => exact (h a b rfl rfl).elim
    | _ => rfl
  | _ => rfl
theorem pair_rep2 {K : PySem.W.Frag} {H : Hp} {T : Addr} {v u : V} {x y : D} (h : SqT K H T [v, u]) (rv : Rep K H v x) (ru : Rep K H u y) : Rep K H (.ref T) (pairD x y) := by
  unfold pairD
  split
  · exact .any _ (by simp)
  · rename_i hn
    exact .tup h (.cons rv (.cons ru .nil)) (.no (nmD_two fun a b e1 e2 => hn a b e1 e2))
theorem pairD_of {x y : D} (h : ∀ a b, x = .str a → y = .str b → False) : pairD x y = .tup [x, y] := by
  unfold pairD
  split
  · exact (h _ _ rfl rfl).elim
  · rfl
def zipD : List D → FR (List D)
  | [.lst xs, .lst ys] => .ok (xs.zipWith pairD ys)
  | [.tup xs, .tup ys] => .ok (xs.zipWith pairD ys)
  | _ => .stuck
def mItL (g : List D → FR (List D)) (a : M (List D)) : M (List D) := fun ρ => (a ρ).bind fun xs ρ => (g xs).lift ρ

section
variable {X : Cx} {W : WX} {tg : Expr}
def iAny (K : PySem.W.Frag) (tl : TE) : TI := fun σ H R => tl σ H fun x H1 =>
  (∃ a xs, x = .ref a ∧ SqL K H1 a xs ∧ R (Itl K a) H1) ∨ (∃ a xs, x = .ref a ∧ SqT K H1 a xs ∧ R (Itt K a) H1) ∨ ∃ z, x = .str z ∧ R (Its z) H1
theorem one_it {pins : List (Addr × Obj)} {σ : St} {H : Hp} {s : Shared} {R : It → Hp → Prop} {J : It} {tn : Nat → Heap → Prop} {tk : Nat} {o : Obj} (I : Inv X pins σ H s) (T : Turn X.prog X.w X.K tg J [s.heap.objs.size] s.heap.objs.size tn) (h0 : tn 0 (s.heap.push o)) (q : R J H) :
    PIE X pins σ tg R (.ref s.heap.objs.size) { s with heap := s.heap.push o, toks := tk } :=
  ⟨s.heap.objs.size, [s.heap.objs.size], tn, J, H, rfl, I.kept (t' := tk) fun _ _ e => Heap.get?_push_of_some _ e, T, h0, fun b hb => by
    rw [List.mem_singleton] at hb
    subst hb
    exact I.fpOk (Nat.le_refl _) (I.hok.fresh (Nat.le_refl _)), q⟩
theorem pi_any {l : Expr} {tl : TE} (hl : PE X l tl) : PI X tg l (iAny X.K tl) := by
  refine ⟨fun pins s σ H R I h => ?_⟩
  refine thn (hl.run pins s σ H _ I h) fun v s1 ⟨x, H1, I1, r1, q1⟩ => ?_
  rcases q1 with ⟨a, xs, rfl, hq, q⟩ | ⟨a, xs, rfl, hq, q⟩ | ⟨z, rfl, q⟩
  · cases r1
    obtain ⟨its, _, p, _⟩ := I1.list hq
    exact wpAny_pyIter_list p.isList (one_it (tk := s1.toks) I1 (turn_list a _) ⟨_, Heap.get?_push_size _ rfl, rfl, rfl⟩ q)
  · cases r1
    obtain ⟨its, _, p, _⟩ := I1.tuple hq
    exact wpAny_pyIter_tuple (show s1.heap.IsTuple a its.toArray from p) (one_it (tk := s1.toks) I1 (turn_tuple a _) ⟨_, Heap.get?_push_size _ rfl, rfl, rfl⟩ q)
  · obtain ⟨t, rfl⟩ := r1
    cases ha : z.cps.all (· < 128) with
    | false => exact wpAny_pyIter_wide ha (one_it (tk := s1.toks) I1 (turn_str _ z t "str_iterator" (.inr rfl)) ⟨_, Heap.get?_push_size _ rfl, rfl, rfl⟩ q)
    | true => exact wpAny_pyIter_ascii ha (one_it (tk := s1.toks) I1 (turn_str _ z t "str_ascii_iterator" (.inl rfl)) ⟨_, Heap.get?_push_size _ rfl, rfl, rfl⟩ q)
theorem okL {K : PySem.W.Frag} {F : Hp} {a : Addr} {vs : List V} {ds : List D} (h : SqL K F a vs) (r : Reps K F vs ds) : ItOk K (Itl K a) F ds := fun i H F' s1 s2 => by
  have h' : SqL K H a vs := SqLm (s1.tr s2) h
  refine ⟨fun hi => ⟨vs, h', by rw [r.length]; exact Nat.le_of_eq hi⟩, fun d hd => ?_⟩
  obtain ⟨v, e, rv⟩ := r.get i hd
  exact ⟨⟨vs, v, h', e⟩, fun x H' ⟨e1, e2⟩ => by
    subst e1
    have := (e2 vs h').symm.trans e
    cases this
    exact ⟨F', .refl s2, rv.mono s1⟩⟩
theorem okT {K : PySem.W.Frag} {F : Hp} {a : Addr} {vs : List V} {ds : List D} (h : SqT K F a vs) (r : Reps K F vs ds) : ItOk K (Itt K a) F ds := fun i H F' s1 s2 => by
  have h' : SqT K H a vs := SqTm (s1.tr s2) h
  refine ⟨fun hi => ⟨vs, h', by rw [r.length]; exact Nat.le_of_eq hi⟩, fun d hd => ?_⟩
  obtain ⟨v, e, rv⟩ := r.get i hd
  exact ⟨⟨vs, v, h', e⟩, fun x H' ⟨e1, e2⟩ => by
    subst e1
    have := (e2 vs h').symm.trans e
    cases this
    exact ⟨F', .refl s2, rv.mono s1⟩⟩
theorem okS {K : PySem.W.Frag} {F : Hp} {z : Str} : ItOk K (Its z) F (z.cps.toList.map fun c => .str ⟨#[c]⟩) := fun i H F' s1 s2 => by
  refine ⟨fun hi => ?_, fun d hd => ?_⟩
  · show z.cps.size ≤ i
    have := Nat.le_of_eq hi
    simpa using this
  · rw [List.getElem?_map] at hd
    obtain ⟨c, e, rfl⟩ := Option.map_eq_some_iff.mp hd
    have e' : z.cps[i]? = some c := by simpa using e
    refine ⟨(Array.getElem?_eq_some_iff.mp e').1, fun x H' ⟨e1, c', e2, e3⟩ => ?_⟩
    subst e1
    rw [e'] at e2; cases e2
    subst e3
    exact ⟨F', .refl s2, .str _⟩
theorem okR {K : PySem.W.Frag} {F : Hp} {lo hi : Int} : ItOk K (Itr lo (hi - lo).toNat) F (rangeD lo hi) := fun i H F' s1 s2 => by
  refine ⟨fun hi' => ?_, fun d hd => ?_⟩
  · show (hi - lo).toNat ≤ i
    have := Nat.le_of_eq hi'
    simpa [rangeD] using this
  · unfold rangeD at hd
    rw [List.getElem?_map] at hd
    obtain ⟨c, e, rfl⟩ := Option.map_eq_some_iff.mp hd
    obtain ⟨hl, e⟩ := List.getElem?_eq_some_iff.mp e
    rw [List.getElem_range] at e
    subst e
    refine ⟨by rw [List.length_range] at hl; exact hl, fun x H' ⟨e1, e2⟩ => ?_⟩
    subst e1 e2
    exact ⟨F', .refl s2, .int _⟩
theorem zip_len {α β γ : Type} {f : α → β → γ} {xs : List α} {ys : List β} {i : Nat} (h : (List.zipWith f xs ys).length ≤ i) : xs.length ≤ i ∨ ys.length ≤ i := by
  rw [List.length_zipWith] at h
  omega
theorem zip_get {α β γ : Type} {f : α → β → γ} {xs : List α} {ys : List β} {i : Nat} {d : γ} (h : (List.zipWith f xs ys)[i]? = some d) : ∃ x y, xs[i]? = some x ∧ ys[i]? = some y ∧ d = f x y := by
  rw [List.getElem?_zipWith] at h
  cases e1 : xs[i]? with
  | none => rw [e1] at h; cases h
  | some x =>
    cases e2 : ys[i]? with
    | none => rw [e1, e2] at h; cases h
    | some y => rw [e1, e2] at h; exact ⟨x, y, rfl, rfl, (Option.some.inj h).symm⟩
theorem okZ {K : PySem.W.Frag} {F : Hp} {a b : Addr} {vs us : List V} {ds es : List D} (h : SqL K F a vs) (r : Reps K F vs ds) (h' : SqL K F b us) (r' : Reps K F us es) : ItOk K (Itz K a b) F (ds.zipWith pairD es) := fun i H F' s1 s2 => by
  have h1 := SqLm (s1.tr s2) h
  have h2 := SqLm (s1.tr s2) h'
  refine ⟨fun hi => ⟨vs, us, h1, h2, by rw [r.length, r'.length]; exact zip_len (Nat.le_of_eq hi)⟩, fun d hd => ?_⟩
  obtain ⟨x, y, e1, e2, rfl⟩ := zip_get hd
  obtain ⟨v, f1, rv⟩ := r.get i e1
  obtain ⟨u, f2, ru⟩ := r'.get i e2
  refine ⟨⟨vs, us, v, u, h1, h2, f1, f2⟩, fun z H' ⟨T, x', y', ez, hT, eH, k1, k2⟩ => ?_⟩
  have q1 := (k1 vs h1).symm.trans f1
  have q2 := (k2 us h2).symm.trans f2
  cases q1; cases q2
  subst ez eH
  exact ⟨upd F' T (.tup [v, u]), .tup s2 hT, pair_rep2 (.of upd_same) (rv.mono (s1.tr (Sm.updN (s2.none hT)))) (ru.mono (s1.tr (Sm.updN (s2.none hT))))⟩
theorem okZT {K : PySem.W.Frag} {F : Hp} {a b : Addr} {vs us : List V} {ds es : List D} (h : SqT K F a vs) (r : Reps K F vs ds) (h' : SqT K F b us) (r' : Reps K F us es) : ItOk K (RZ.ItzT K a b) F (ds.zipWith pairD es) := fun i H F' s1 s2 => by
  have h1 := SqTm (s1.tr s2) h
  have h2 := SqTm (s1.tr s2) h'
  refine ⟨fun hi => ⟨vs, us, h1, h2, by rw [r.length, r'.length]; exact zip_len (Nat.le_of_eq hi)⟩, fun d hd => ?_⟩
  obtain ⟨x, y, e1, e2, rfl⟩ := zip_get hd
  obtain ⟨v, f1, rv⟩ := r.get i e1
  obtain ⟨u, f2, ru⟩ := r'.get i e2
  refine ⟨⟨vs, us, v, u, h1, h2, f1, f2⟩, fun z H' ⟨T, x', y', ez, hT, eH, k1, k2⟩ => ?_⟩
  have q1 := (k1 vs h1).symm.trans f1
  have q2 := (k2 us h2).symm.trans f2
  cases q1; cases q2
  subst ez eH
  exact ⟨upd F' T (.tup [v, u]), .tup s2 hT, pair_rep2 (.of upd_same) (rv.mono (s1.tr (Sm.updN (s2.none hT)))) (ru.mono (s1.tr (Sm.updN (s2.none hT))))⟩
variable {e e2 : Expr} {fe : M D} {fs : M (List D)} {p pos : Pos}
theorem AI.any (h : AE X W e fe) : AI X W tg e (mWalk fe) := by
  obtain ⟨t, pe, qe⟩ := h
  refine ⟨_, pi_any pe, fun G σ H F ρ R S hg => qe G σ H F ρ _ S (hg.bind fun d ρ1 H1 F1 S1 s1 g1 v r1 => ?_)⟩
  cases r1 with
  | lst hx rx => exact .inl ⟨_, _, rfl, .of (S1.sub _ _ hx), g1 H1 F1 S1 Sm.refl _ (okL (.of hx) rx)⟩
  | frz hx rx => exact .inl ⟨_, _, rfl, SqLm S1.sub hx, g1 H1 F1 S1 Sm.refl _ (okL hx rx)⟩
  | tup hx rx => exact .inr (.inl ⟨_, _, rfl, SqTm S1.sub hx, g1 H1 F1 S1 Sm.refl _ (okT hx rx)⟩)
  | str z => exact .inr (.inr ⟨z, rfl, g1 H1 F1 S1 Sm.refl _ okS⟩)
  | _ => exact g1.elim
theorem AI.range1 (hg : Gl X "range") (hm : X.mg "range" = none) (ha : AA X W [e] fs) (hs : starEach [e] X.env = [(false, eval e X.env)] := by rfl) : AI X W tg (.Call (.Name "range" p) [e] [] pos) (mItL range1D fs) := by
  obtain ⟨t, pa, qa⟩ := ha
  refine ⟨_, pi_range1 hg hm pa hs, fun G σ H F ρ R S hgd => qa G σ H F ρ _ S (hgd.bind fun ds ρ1 H1 F1 S1 s1 g1 vs r1 => ?_)⟩
  unfold range1D at g1
  split at g1
  · split at g1
    · rename_i hz
      obtain ⟨v, rfl, rv⟩ := reps1 r1
      cases rv
      exact ⟨_, rfl, hz.1, hz.2, g1 H1 F1 S1 Sm.refl _ (by simpa using okR (lo := 0))⟩
    · exact g1.elim
  · exact g1.elim
theorem AI.range2 (hg : Gl X "range") (hm : X.mg "range" = none) (ha : AA X W [e, e2] fs) (hs : starEach [e, e2] X.env = [(false, eval e X.env), (false, eval e2 X.env)] := by rfl) (hs2 : starEach [e2] X.env = [(false, eval e2 X.env)] := by rfl) :
    AI X W tg (.Call (.Name "range" p) [e, e2] [] pos) (mItL range2D fs) := by
  obtain ⟨t, pa, qa⟩ := ha
  refine ⟨_, pi_range2 hg hm pa hs hs2, fun G σ H F ρ R S hgd => qa G σ H F ρ _ S (hgd.bind fun ds ρ1 H1 F1 S1 s1 g1 vs r1 => ?_)⟩
  unfold range2D at g1
  split at g1
  · split at g1
    · rename_i hz
      obtain ⟨v, u, rfl, rv, ru⟩ := reps2 r1
      cases rv; cases ru
      exact ⟨_, _, rfl, ⟨hz.1.1, hz.1.2, hz.2.1, hz.2.2⟩, g1 H1 F1 S1 Sm.refl _ okR⟩
    · exact g1.elim
  · exact g1.elim
theorem AI.zip {tpos : Pos} {elts : List Expr} {kk : Nat} (hg : Gl X "zip") (hm : X.mg "zip" = none) (ha : AA X W [e, e2] fs) (hs : starEach [e, e2] X.env = (false, eval e X.env) :: starEach [e2] X.env := by rfl) (hpl : (backTo pos (starEach [e2] X.env)).any (·.1) = false := by rfl) :
    AI X W (.Tuple elts kk tpos) (.Call (.Name "zip" p) [e, e2] [] pos) (mItL zipD fs) := by
  obtain ⟨t, pa, qa⟩ := ha
  refine ⟨_, RZ.pi_zipA hg hm pa hs hpl, fun G σ H F ρ R S hgd => qa G σ H F ρ _ S (hgd.bind fun ds ρ1 H1 F1 S1 s1 g1 vs r1 => ?_)⟩
  unfold zipD at g1
  split at g1
  · obtain ⟨v, u, rfl, rv, ru⟩ := reps2 r1
    cases rv with
    | lst hx rx =>
      cases ru with
      | lst hy ry => exact ⟨_, _, _, _, rfl, .inl ⟨.of (S1.sub _ _ hx), .of (S1.sub _ _ hy), g1 H1 F1 S1 Sm.refl _ (okZ (.of hx) rx (.of hy) ry)⟩⟩
  · obtain ⟨v, u, rfl, rv, ru⟩ := reps2 r1
    cases rv with
    | tup hx rx =>
      cases ru with
      | tup hy ry => exact ⟨_, _, _, _, rfl, .inr ⟨SqTm S1.sub hx, SqTm S1.sub hy, g1 H1 F1 S1 Sm.refl _ (okZT hx rx hy ry)⟩⟩
  · exact g1.elim
end

/-- the slots that a target stores to -/
inductive Tg where
  | sl (i : Nat)
  | tp (ts : List Tg)
mutual
def putT : Tg → D → Ro → R Unit
  | .sl i, d, ρ => if (ρ.getD i .un).isIo = true then .stuck else .ok () (ρ.set i (.val d))
  | .tp ts, .tup xs, ρ => if xs.length = lenT ts then putTs ts xs ρ else .stuck
  | .tp ts, .lst xs, ρ => if xs.length = lenT ts then putTs ts xs ρ else .stuck
  | .tp _, _, _ => .stuck
def putTs : List Tg → List D → Ro → R Unit
  | [], [], ρ => .ok () ρ
  | t :: ts, x :: xs, ρ => (putT t x ρ).bind fun _ ρ => putTs ts xs ρ
  | _, _, _ => .stuck
def lenT : List Tg → Nat
  | [] => 0
  | _ :: ts => lenT ts + 1
end
mutual
/-- the slots of a target -/
def slT : Tg → List Nat
  | .sl i => [i]
  | .tp ts => slTs ts
def slTs : List Tg → List Nat
  | [] => []
  | t :: ts => slT t ++ slTs ts
end
/-- behind stores: the slots may be others -/
def GoodT (K : PySem.W.Frag) (G : Ent) (F : Hp) (σ : St) (sl : List Nat) (r : R Unit) (Q : St → Hp → Prop) : Prop := match r with
  | .ok _ ρ => ∀ σ' H' F', Stt K G σ' H' F' ρ → Sm F F' → (∀ i, i ∉ sl → σ'[i]? = σ[i]?) → Q σ' H'
  | _ => False
theorem GoodT.mono {K : PySem.W.Frag} {G : Ent} {F F1 : Hp} {σ : St} {sl : List Nat} {r : R Unit} {Q : St → Hp → Prop} (s : Sm F F1) (h : GoodT K G F σ sl r Q) : GoodT K G F1 σ sl r Q := by
  cases r with
  | ok a ρ => exact fun σ' H' F' S q => h σ' H' F' S (s.tr q)
  | exc x ρ => exact h
  | stuck => exact h
def AG (X : Cx) (tg : Expr) (t : Tg) : Prop := ∃ g, PG X tg g ∧ ∀ G σ H F ρ v d Q, Stt X.K G σ H F ρ → Rep X.K F v d → GoodT X.K G F σ (slT t) (putT t d ρ) Q → g v σ H Q
def AGs (X : Cx) (tg : List Expr) (t : List Tg) : Prop := ∃ g, PGs X tg g ∧ ∀ G σ H F ρ vs ds Q, Stt X.K G σ H F ρ → Reps X.K F vs ds → GoodT X.K G F σ (slTs t) (putTs t ds ρ) Q → g vs σ H Q
section
variable {X : Cx} {pos : Pos}
theorem AG.name {i : Nat} {x : Str} (hN : X.N.Nodup) (hi : X.N[i]? = some x) (hx : Loc X.env.scope x) (hf : X.fn x = true ∨ X.env.scope.names.lookup x = some .local := by first | exact .inl rfl | exact .inr rfl) : AG X (.Name x pos) (.sl i) := by
  refine ⟨_, pg_name hN hi hx hf, fun G σ H F ρ v d Q S r hg => ?_⟩
  unfold putT at hg
  split at hg
  · exact hg.elim
  · rename_i h
    exact hg _ H F (S.setVal (by simpa using h) r) Sm.refl fun j hj => List.getElem?_set_ne (fun e => hj (by simp [slT, e]))
theorem AGs.nil : AGs X [] [] := ⟨_, pgs_nil, fun G σ H F ρ vs ds Q S r hg => by
  cases r with
  | nil => exact ⟨rfl, hg σ H F S Sm.refl fun _ _ => rfl⟩
  | cons => exact hg.elim⟩
theorem AGs.cons {e : Expr} {es : List Expr} {t : Tg} {ts : List Tg} (h : AG X e t) (hr : AGs X es ts) (hs : (assignEach (e :: es) X.env).map (·.2) = assign e X.env :: (assignEach es X.env).map (·.2) := by rfl) : AGs X (e :: es) (t :: ts) := by
  obtain ⟨g, pg, qg⟩ := h
  obtain ⟨gs, pgs, qgs⟩ := hr
  refine ⟨_, pgs_cons pg pgs hs, fun G σ H F ρ vs ds Q S r hg => ?_⟩
  cases r with
  | nil => exact hg.elim
  | @cons v vs d ds rv rr =>
    refine ⟨v, vs, rfl, qg G σ H F ρ v d _ S rv ?_⟩
    unfold putTs at hg
    cases e : putT t d ρ with
    | ok a ρ1 =>
      rw [e] at hg
      refine fun σ' H' F' S' s' o' => qgs G σ' H' F' ρ1 vs ds _ S' (rr.mono s') ?_
      have hg : GoodT X.K G F σ (slTs (t :: ts)) (putTs ts ds ρ1) Q := hg
      cases e2 : putTs ts ds ρ1 with
      | ok b ρ2 =>
        rw [e2] at hg
        exact fun σ2 H2 F2 S2 s2 o2 => hg σ2 H2 F2 S2 (s'.tr s2) fun i hi => (o2 i fun h => hi (by simp [slTs, h])).trans (o' i fun h => hi (by simp [slTs, h]))
      | exc x ρ2 => rw [e2] at hg; exact hg.elim
      | stuck => rw [e2] at hg; exact hg.elim
    | exc x ρ1 => rw [e] at hg; exact hg.elim
    | stuck => rw [e] at hg; exact hg.elim
theorem pg_or {tg : Expr} {g1 g2 : TG} (h1 : PG X tg g1) (h2 : PG X tg g2) : PG X tg fun v σ H Q => g1 v σ H Q ∨ g2 v σ H Q := ⟨fun pins s σ H v u Q I r hw => hw.elim (fun w => h1.run pins s σ H v u Q I r w) fun w => h2.run pins s σ H v u Q I r w⟩
theorem AGs.len {es : List Expr} {ts : List Tg} (hn : es.length = lenT ts) : es.length = lenT ts := hn
theorem AG.tup {es : List Expr} {k n : Nat} {ts : List Tg} (hc : X.calm = true) (h : AGs X es ts) (hl : n = lenT ts := by rfl) (hn : (assignEach es X.env).length = n := by rfl) (hst : (assignEach es X.env).findIdx? (·.1) = none := by rfl) : AG X (.Tuple es k pos) (.tp ts) := by
  obtain ⟨g, pg, qg⟩ := h
  refine ⟨_, pg_or (pg_tup hc pg hn hst) (pg_unl hc pg hn hst), fun G σ H F ρ v d Q S r hg => ?_⟩
  cases r with
  | tup hx rx =>
    unfold putT at hg
    split at hg
    · rename_i hz
      exact .inl ⟨_, _, rfl, SqTm S.sub hx, by rw [rx.length, hz, hl], qg G σ H F ρ _ _ Q S rx hg⟩
    · exact hg.elim
  | lst hx rx =>
    unfold putT at hg
    split at hg
    · rename_i hz
      exact .inr ⟨_, _, rfl, .of (S.sub _ _ hx), by rw [rx.length, hz, hl], qg G σ H F ρ _ _ Q S rx hg⟩
    · exact hg.elim
  | _ => exact hg.elim
end

def xNx : M Fl := fun ρ => .ok .nx ρ
def xSeq (a b : M Fl) : M Fl := fun ρ => (a ρ).bind fun f ρ => match f with
  | .nx => b ρ
  | f => .ok f ρ
def xRet (e : M D) : M Fl := fun ρ => (e ρ).bind fun d ρ => .ok (.rt d) ρ
def xIf (t : M Bool) (a b : M Fl) : M Fl := fun ρ => (t ρ).bind fun c ρ => if c = true then a ρ else b ρ
def xDrop (e : M D) : M Fl := fun ρ => (e ρ).bind fun _ ρ => .ok .nx ρ
def xPut (t : Tg) (e : M D) : M Fl := fun ρ => (e ρ).bind fun d ρ => (putT t d ρ).bind fun _ ρ => .ok .nx ρ
/-- the loop over what is left -/
def forM (t : Tg) (body : M Fl) : List D → M Fl
  | [], ρ => .ok .nx ρ
  | d :: ds, ρ => (putT t d ρ).bind fun _ ρ => (body ρ).bind fun f ρ => match f with
    | .nx => forM t body ds ρ
    | .ct => forM t body ds ρ
    | .bk => .ok .nx ρ
    | .rt r => .ok (.rt r) ρ
    | .rn r => .ok (.rn r) ρ
def xFor (it : M (List D)) (t : Tg) (body : M Fl) : M Fl := fun ρ => (it ρ).bind fun ds ρ => forM t body ds ρ
section
variable {X : Cx} {W : WX} {st : Stmt} {rest : List Stmt} {a b : M Fl} {e : Expr} {fe : M D} {pos : Pos}
theorem AB.nil : AB X W [] xNx := ⟨_, pss_nil, fun G σ H F ρ Dn S hg => hg σ H F S Sm.refl⟩
theorem seq_good {K : PySem.W.Frag} {G : Ent} {F : Hp} {r : R Fl} {Dn : Ends} {u : TS} (q : ∀ σ H F ρ, Stt K G σ H F ρ → GoodS K G W F (b ρ) Dn → u Dn σ H)
    (hg : GoodS K G W F (r.bind fun f ρ => match f with | .nx => b ρ | f => .ok f ρ) Dn) : GoodS K G W F r { Dn with nx := u Dn } := by
  cases r with
  | ok f ρ =>
    cases f with
    | nx => exact fun σ' H' F' S s => q σ' H' F' ρ S (GoodS.mono s hg)
    | rt d => exact hg
    | rn d => exact hg
    | bk => exact hg
    | ct => exact hg
  | exc x ρ => exact hg
  | stuck => exact hg
theorem AB.cons (h1 : AS X W st a) (h2 : AB X W rest b) : AB X W (st :: rest) (xSeq a b) := by
  obtain ⟨t, p, q⟩ := h1
  obtain ⟨u, p2, q2⟩ := h2
  exact ⟨_, pss_cons p p2, fun G σ H F ρ Dn S hg => q G σ H F ρ _ S (seq_good (fun σ H F ρ S hg => q2 G σ H F ρ Dn S hg) hg)⟩
theorem AB.one (h1 : AS X W st a) : AB X W [st] a := by
  obtain ⟨t, p, q⟩ := h1
  exact ⟨_, pss_one p, q⟩
theorem AS.ret (h : AE X W e fe) : AS X W (.Return (some e) pos) (xRet fe) := by
  obtain ⟨t, p, q⟩ := h
  exact ⟨_, ps_ret p, fun G σ H F ρ Dn S hg => q G σ H F ρ _ S (GoodS.bind hg fun d ρ1 H1 F1 S1 s1 g1 v r1 => g1 v σ H1 F1 S1 Sm.refl r1)⟩
theorem AS.if_ {c : Expr} {x y : List Stmt} {t : M Bool} (hc : AT X W c t) (ha : AB X W x a) (hb : AB X W y b) : AS X W (.If c x y pos) (xIf t a b) := by
  obtain ⟨tc, pc, qc⟩ := hc
  obtain ⟨ta, pa, qa⟩ := ha
  obtain ⟨tb, pb, qb⟩ := hb
  refine ⟨_, ps_if pc pa pb, fun G σ H F ρ Dn S hg => qc G σ H F ρ _ S (GoodS.bind hg fun k ρ1 H1 F1 S1 s1 g1 => ?_)⟩
  show if k = true then ta Dn σ H1 else tb Dn σ H1
  cases k with
  | true => rw [if_pos rfl]; exact qa G σ H1 F1 ρ1 Dn S1 g1
  | false => rw [if_neg Bool.false_ne_true]; exact qb G σ H1 F1 ρ1 Dn S1 g1
theorem AS.expr (h : AE X W e fe) (hs : swapsWith e none pos.line X.env = pure false := by rfl) : AS X W (.Expr e pos) (xDrop fe) := by
  obtain ⟨t, p, q⟩ := h
  exact ⟨_, ps_expr p hs, fun G σ H F ρ Dn S hg => q G σ H F ρ _ S (GoodS.bind hg fun d ρ1 H1 F1 S1 s1 g1 v r1 => g1 σ H1 F1 S1 Sm.refl)⟩
theorem AS.pass : AS X W (.Pass pos) xNx := ⟨_, ps_pass, fun G σ H F ρ Dn S hg => hg σ H F S Sm.refl⟩
theorem AS.doc {x : Str} {j : Nat} {pos' : Pos} : AS X W (.Expr (.Constant (.str x) j pos) pos') xNx := ⟨_, ps_doc, fun G σ H F ρ Dn S hg => hg σ H F S Sm.refl⟩
theorem AS.brk : AS X W (.Break pos) (fun ρ => .ok .bk ρ) := ⟨_, ps_break, fun G σ H F ρ Dn S hg => hg σ H F S Sm.refl⟩
theorem AS.cont : AS X W (.Continue pos) (fun ρ => .ok .ct ρ) := ⟨_, ps_continue, fun G σ H F ρ Dn S hg => hg σ H F S Sm.refl⟩
theorem put_good {K : PySem.W.Frag} {G : Ent} {F : Hp} {σ : St} {sl : List Nat} {t : Tg} {d : D} {ρ : Ro} {Dn : Ends} (hg : GoodS K G W F ((putT t d ρ).bind fun _ ρ => .ok .nx ρ) Dn) (hx : ∀ x ρ', putT t d ρ ≠ .exc x ρ') : GoodT K G F σ sl (putT t d ρ) Dn.nx := by
  cases e : putT t d ρ with
  | ok u ρ1 => rw [e] at hg; exact fun σ' H' F' S s _ => hg σ' H' F' S s
  | exc x ρ1 => exact absurd e (hx x ρ1)
  | stuck => rw [e] at hg; exact hg
mutual
theorem putT_noexc : ∀ (t : Tg) (d : D) (ρ : Ro) (x : Ex) (ρ' : Ro), putT t d ρ ≠ .exc x ρ'
  | .sl i, d, ρ, x, ρ' => by
    unfold putT
    split <;> exact fun h => by cases h
  | .tp ts, .tup xs, ρ, x, ρ' => by
    unfold putT
    split
    · exact putTs_noexc ts xs ρ x ρ'
    · exact fun h => by cases h
  | .tp ts, .non, ρ, x, ρ' => by unfold putT; exact fun h => by cases h
  | .tp ts, .bl _, ρ, x, ρ' => by unfold putT; exact fun h => by cases h
  | .tp ts, .int _, ρ, x, ρ' => by unfold putT; exact fun h => by cases h
  | .tp ts, .str _, ρ, x, ρ' => by unfold putT; exact fun h => by cases h
  | .tp ts, .lst xs, ρ, x, ρ' => by
    unfold putT
    split
    · exact putTs_noexc ts xs ρ x ρ'
    · exact fun h => by cases h
  | .tp ts, .frz _, ρ, x, ρ' => by unfold putT; exact fun h => by cases h
  | .tp ts, .obj _ _ _, ρ, x, ρ' => by unfold putT; exact fun h => by cases h
  | .tp ts, .dct _ _, ρ, x, ρ' => by unfold putT; exact fun h => by cases h
  | .tp ts, .opq _, ρ, x, ρ' => by unfold putT; exact fun h => by cases h
  | .tp ts, .any, ρ, x, ρ' => by unfold putT; exact fun h => by cases h
theorem putTs_noexc : ∀ (ts : List Tg) (ds : List D) (ρ : Ro) (x : Ex) (ρ' : Ro), putTs ts ds ρ ≠ .exc x ρ'
  | [], [], ρ, x, ρ' => by unfold putTs; exact fun h => by cases h
  | [], _ :: _, ρ, x, ρ' => by unfold putTs; exact fun h => by cases h
  | _ :: _, [], ρ, x, ρ' => by unfold putTs; exact fun h => by cases h
  | t :: ts, d :: ds, ρ, x, ρ' => by
    unfold putTs
    cases e : putT t d ρ with
    | ok u ρ1 => exact putTs_noexc ts ds ρ1 x ρ'
    | exc y ρ1 => exact absurd e (putT_noexc t d ρ y ρ1)
    | stuck => exact fun h => by cases h
end
/-- name = e -/
theorem AS.set {i : Nat} {x : Str} {pos' : Pos} (hN : X.N.Nodup) (hi : X.N[i]? = some x) (hx : Loc X.env.scope x) (he : AE X W e fe) (hs : swapsWith e (some (.Name x pos')) pos.line X.env = pure false := by rfl) (hf : X.fn x = true ∨ X.env.scope.names.lookup x = some .local := by first | exact .inl rfl | exact .inr rfl) :
    AS X W (.Assign [.Name x pos'] e pos) (xPut (.sl i) fe) := by
  obtain ⟨t, p, q⟩ := he
  obtain ⟨g, pg, qg⟩ := AG.name (X := X) (pos := pos') hN hi hx hf
  refine ⟨_, ps_set hN hi hx p hs hf, fun G σ H F ρ Dn S hg => q G σ H F ρ _ S (GoodS.bind hg fun d ρ1 H1 F1 S1 s1 g1 v r1 => ?_)⟩
  have h := put_good (σ := σ) (sl := []) g1 (putT_noexc _ _ _)
  unfold putT at h
  split at h
  · exact h.elim
  · rename_i hh
    unfold putT at g1
    rw [if_neg hh] at g1
    exact g1 _ H1 F1 (S1.setVal (by simpa using hh) r1) Sm.refl
/-- a target = e -/
theorem AS.asg {tg : Expr} {t : Tg} (he : AE X W e fe) (hg : AG X tg t) (hs : swapsWithSole [tg] e pos.line X.env = pure false := by rfl) (hw : swappedStores [tg] e X.env = pure none := by rfl) (h1 : (assignEach [tg] X.env).map (·.2) = [assign tg X.env] := by rfl) : AS X W (.Assign [tg] e pos) (xPut t fe) := by
  obtain ⟨te, p, q⟩ := he
  obtain ⟨g, pg, qg⟩ := hg
  exact ⟨_, ps_asg p pg hs hw h1, fun G σ H F ρ Dn S hg => q G σ H F ρ _ S (GoodS.bind hg fun d ρ1 H1 F1 S1 s1 g1 v r1 => qg G σ H1 F1 ρ1 v d Dn.nx S1 r1 (put_good g1 (putT_noexc _ _ _)))⟩
/-- a loop over a list, .. -/
theorem AS.for_ {tg iter : Expr} {body : List Stmt} {fi : M (List D)} {t : Tg} {fb : M Fl} (hp : PassesOwn (model X.prog X.w) X.A X.env X.xe) (hc : X.calm = true) (hi : AI X W tg iter fi) (hg : AG X tg t) (hb : AB X W body fb)
    (hs : ∀ x, foldedSetIterable iter X.env x = pure x := by intro _; rfl) : AS X W (.For tg iter body [] pos) (xFor fi t fb) := by
  obtain ⟨wi, pi, qi⟩ := hi
  obtain ⟨g, pg, qg⟩ := hg
  obtain ⟨tb, pb, qb⟩ := hb
  refine ⟨_, ps_for hp hc pi pg pb hs, fun G σ H F ρ Dn S hgd => qi G σ H F ρ _ S (GoodS.bind hgd fun ds ρ1 H1 F1 S1 s1 g1 J hJ => ?_)⟩
  refine ⟨fun i m σ' H' => i + m = ds.length ∧ ∃ F' ρ', Stt X.K G σ' H' F' ρ' ∧ Sm F1 F' ∧ GoodS X.K G W F' (forM t fb (ds.drop i) ρ') Dn, ⟨ds.length, by omega, F1, ρ1, S1, Sm.refl, by rw [List.drop_zero]; exact g1⟩, ?_⟩
  rintro i m σ' H' ⟨hm, F', ρ', S', s', hgf⟩
  obtain ⟨stop, go⟩ := hJ i H' F' s' S'.sub
  by_cases hlt : i < ds.length
  · rw [List.drop_eq_getElem_cons hlt] at hgf
    obtain ⟨hgo, hy⟩ := go ds[i] (List.getElem?_eq_getElem hlt)
    refine .inr ⟨hgo, fun σ2 H2 => (i + 1) + (m - 1) = ds.length ∧ ∃ F2 ρ2, Stt X.K G σ2 H2 F2 ρ2 ∧ Sm F1 F2 ∧ GoodS X.K G W F2 (forM t fb (ds.drop (i + 1)) ρ2) Dn, fun σ2 H2 hn => ⟨m - 1, by omega, hn⟩, fun x H2 hyl => ?_⟩
    obtain ⟨F2, A2, r2⟩ := hy x H2 hyl
    have S2 := S'.aft A2
    refine qg G σ' H2 F2 ρ' x _ _ S2 r2 ?_
    unfold forM at hgf
    cases e : putT t ds[i] ρ' with
    | ok u ρ3 =>
      rw [e] at hgf
      refine fun σ3 H3 F3 S3 s3 _ => qb G σ3 H3 F3 ρ3 _ S3 ?_
      have hgf := GoodS.mono (A2.f.tr s3) hgf
      have again : ∀ {ρ4 : Ro}, GoodS X.K G W F3 (forM t fb (ds.drop (i + 1)) ρ4) Dn → ∀ σ4 H4 F4, Stt X.K G σ4 H4 F4 ρ4 → Sm F3 F4 → (i + 1) + (m - 1) = ds.length ∧ ∃ F2 ρ2, Stt X.K G σ4 H4 F2 ρ2 ∧ Sm F1 F2 ∧ GoodS X.K G W F2 (forM t fb (ds.drop (i + 1)) ρ2) Dn :=
        fun hq σ4 H4 F4 S4 s4 => ⟨by omega, F4, _, S4, s'.tr (A2.f.tr (s3.tr s4)), GoodS.mono s4 hq⟩
      have hgf : GoodS X.K G W F3 ((fb ρ3).bind fun f ρ => match f with | .nx => forM t fb (ds.drop (i + 1)) ρ | .ct => forM t fb (ds.drop (i + 1)) ρ | .bk => .ok .nx ρ | .rt r => .ok (.rt r) ρ | .rn r => .ok (.rn r) ρ) Dn := hgf
      cases e4 : fb ρ3 with
      | ok f ρ4 =>
        rw [e4] at hgf
        cases f with
        | nx => exact again hgf
        | ct => exact again hgf
        | bk => exact hgf
        | rt d => exact hgf
        | rn d => exact hgf
      | exc x ρ4 => rw [e4] at hgf; exact hgf
      | stuck => rw [e4] at hgf; exact hgf
    | exc y ρ3 => exact absurd e (putT_noexc _ _ _ _ _)
    | stuck => rw [e] at hgf; exact hgf.elim
  · have e0 : ds.drop i = [] := List.drop_eq_nil_of_le (by omega)
    rw [e0] at hgf
    exact .inl ⟨stop (by omega), hgf σ' H' F' S' Sm.refl⟩
end
end Mr
namespace Mr
open PySem PySem.Spec PyProof.Rows L2
variable [Lam] [Pins]

section
variable {X : Cx} {W : WX} {k n : Nat} {f : Addr} {fd : FuncData} {ps : List Str} {sp : Sp} {dvs : List V} {dV : List Value} {dd : List D} {x y : Str} {p py pos : Pos} {e : Expr} {es : List Expr} {fs : M (List D)} {m : List D → FR D} {mi : SV → List D → IR}
theorem run_fnW {pins : List (Addr × Obj)} {σ : St} {H : Hp} {s : Shared} {Q : VK} {us : List Value} {vs : List V} (Fn : FnG X.prog X.w X.K X.mg X.base k f fd ps sp) (hr : RoomG k X.A) (hb : Binds X.K fd ps dV) (hd : Vals dvs dV) (tk : L2N.Takes X W)
    (I : Inv X pins σ H s) (r : Vals vs us) (h : sp (vs ++ dvs) H Q (WE W σ)) : wpAny (model X.prog X.w) X.A (call (.ref f) us) (EP X pins σ Q) X.xe s := by
  have r2 := r.append hd
  have hl : (us ++ dV).length = ps.length := r2.length.symm.trans (Fn.len _ _ _ _ h)
  refine wpAny_call (codeAny_mono (Fn.run X.A X.stack s H ⟨us, []⟩ (us ++ dV) (vs ++ dvs) Q (WE W σ) hr I.env0 (hb s us I.kIn hl) r2 h) fun r s' hq => ?_)
  cases r with
  | error e => exact L2N.passAt tk σ pins H s e s' I hq
  | ok fl =>
    cases fl with
    | ret u => exact I.after hq
    | _ => exact hq.elim
def tCallW (W : WX) (sp : Sp) (dvs : List V) (t : TA) : TE := fun σ H Q => t σ H fun vs H1 => sp (vs ++ dvs) H1 Q (WE W σ)
theorem pe_callW {ta : TA} (Fn : FnG X.prog X.w X.K X.mg X.base k f fd ps sp) (hr : RoomG k X.A) (hg : Gl X x) (hm : X.mg x = some (.ref f)) (hk : PySem.W.keepIn X.K (.ref f) = true) (hb : Binds X.K fd ps dV) (hd : Vals dvs dV) (tk : L2N.Takes X W)
    (ha : PA X (e :: es) ta) (hdb : (x == ("__debug__" : Str)) = false := by decide) (he : starEach (e :: es) X.env = (false, eval e X.env) :: starEach es X.env := by rfl) (hpl : (backTo pos (starEach es X.env)).any (·.1) = false := by rfl) :
    PE X (.Call (.Name x p) (e :: es) [] pos) (tCallW W sp dvs ta) := by
  refine ⟨fun pins s σ H Q I h => ?_⟩
  refine wpAny_Call_Name_kw (ld_glob I hg hm (PySem.W.callWith_K (h₀ := X.base) I.ok.mod.kin hk ?_ he hpl) hdb)
  refine thn (ha.run pos pins s σ H _ I h) fun us s1 ⟨vs, H1, I1, r, q⟩ => ?_
  exact ⟨I1.kIn, run_fnW Fn hr hb hd tk I1 r q⟩
theorem aftGood {G : Ent} {σ : St} {H F : Hp} {ρ : Ro} {r : FR D} {Q : VK} (S : Stt X.K G σ H F ρ) (g : Good X.K G W σ F (r.lift ρ) (PD X.K Q)) : GoodF X.K H F r Q (WE W σ) := by
  cases r with
  | ok d => exact fun v H' F' A rv => g H' F' (S.aft A) A.f v rv
  | exc x => exact fun d H' F' A rv => g d H' F' (S.aft A) A.f rv
  | stuck => exact g
def mCall (m : List D → FR D) (n : Nat) (dd : List D) (fs : M (List D)) : M D := fun ρ => (fs ρ).bind fun ds ρ => (if ds.length + dd.length = n then m (ds ++ dd) else .stuck).lift ρ
/-- f(..) -/
theorem AE.call (Fn : FnG X.prog X.w X.K X.mg X.base k f fd ps (PSp X.K n m)) (hr : RoomG k X.A) (hg : Gl X x) (hm : X.mg x = some (.ref f)) (hk : PySem.W.keepIn X.K (.ref f) = true) (hb : Binds X.K fd ps dV) (hd : Vals dvs dV) (hdd : ∀ K H, Reps K H dvs dd) (tk : L2N.Takes X W)
    (ha : AA X W (e :: es) fs) (hdb : (x == ("__debug__" : Str)) = false := by decide) (he : starEach (e :: es) X.env = (false, eval e X.env) :: starEach es X.env := by rfl) (hpl : (backTo pos (starEach es X.env)).any (·.1) = false := by rfl) :
    AE X W (.Call (.Name x p) (e :: es) [] pos) (mCall m n dd fs) := by
  obtain ⟨t, pa, qa⟩ := ha
  refine ⟨_, pe_callW Fn hr hg hm hk hb hd tk pa hdb he hpl, fun G σ H F ρ Q S hgd => qa G σ H F ρ _ S (hgd.bind fun ds ρ1 H1 F1 S1 s1 g1 vs r1 => ?_)⟩
  have g1 : Good X.K G W σ F1 ((if ds.length + dd.length = n then m (ds ++ dd) else FR.stuck).lift ρ1) (PD X.K Q) := g1
  split at g1
  · rename_i hz
    exact ⟨by rw [List.length_append, r1.length, (hdd X.K F1).length]; exact hz, F1, ds ++ dd, S1.pre, r1.append (hdd _ _), aftGood S1 g1⟩
  · exact g1.elim
/-- f(x, ..): x may be changed -/
def SV.flag (b : Bool) : SV → SV
  | .own _ xs => .own b xs
  | .ins _ C ns ds => .ins b C ns ds
  | .dic _ ks ds => .dic b ks ds
  | .nst _ ks => .nst b ks
  | s => s
def mIo (mi : SV → List D → IR) (n j : Nat) (fs : M (List D)) : M D := fun ρ => if (ρ.getD j .un).isOwn = true then (fs ρ).bind fun ds ρ =>
    if ds.length = n ∧ (ρ.getD j .un).isOwn = true then match mi ((ρ.getD j .un).flag true) ds with
      | .ok d sv => .ok d (ρ.set j (sv.flag (ρ.getD j .un).isIo))
      | .exc x sv => .exc x (ρ.set j (sv.flag (ρ.getD j .un).isIo))
      | .stuck => .stuck
    else .stuck
  else .stuck
theorem SlotOk.flag {K : PySem.W.Frag} {H F : Hp} {s : Option (Option V)} {sv : SV} (b : Bool) (q : SlotOk K H F s sv) : SlotOk K H F s (sv.flag b) := by
  cases sv <;> exact q
theorem flag_io {sv : SV} {b : Bool} (h : sv.isOwn = true) : (sv.flag b).isHd = b ∧ (sv.flag b).isOwn = true := by
  cases sv <;> first | exact ⟨rfl, rfl⟩ | cases h
theorem own_io_hd {sv : SV} (h : sv.isOwn = true) : sv.isIo = sv.isHd := by
  cases sv <;> first | rfl | cases h
theorem AE.callIo {j : Nat} (Fn : FnG X.prog X.w X.K X.mg X.base k f fd ps (ISp X.K n mi)) (hr : RoomG k X.A) (hg : Gl X x) (hm : X.mg x = some (.ref f)) (hk : PySem.W.keepIn X.K (.ref f) = true) (hb : Binds X.K fd ps []) (tk : L2N.Takes X W)
    (h0 : PE X (.Name y py) (tVar j)) (ha : AA X W es fs) (hdb : (x == ("__debug__" : Str)) = false := by decide) (he : starEach (.Name y py :: es) X.env = (false, eval (.Name y py) X.env) :: starEach es X.env := by rfl) (hpl : (backTo pos (starEach es X.env)).any (·.1) = false := by rfl) :
    AE X W (.Call (.Name x p) (.Name y py :: es) [] pos) (mIo mi n j fs) := by
  obtain ⟨t, pa, qa⟩ := ha
  refine ⟨_, pe_callW (W := W) Fn hr hg hm hk hb .nil tk (pa_cons h0 pa he) hdb he hpl, fun G σ H F ρ Q S hgd => ?_⟩
  unfold mIo at hgd
  split at hgd
  · rename_i ho
    obtain ⟨a, o, e1, _, _, _⟩ := (S.at_ j).there ho
    refine ⟨_, e1, qa G σ H F ρ _ S (hgd.bind fun ds ρ1 H1 F1 S1 s1 g1 vs r1 => ?_)⟩
    split at g1
    · rename_i hz
      have q := S1.at_ j
      rw [e1] at q
      refine ⟨by rw [List.append_nil, List.length_cons, r1.length, hz.1], F1, a, vs, _, ds, by rw [List.append_nil], S1.pre, q.flag true, (flag_io hz.2).1, r1, ?_⟩
      have back : ∀ {sv : SV} {H' F' : Hp}, AftIo X.K a sv H1 F1 H' F' → Stt X.K G σ H' F' (ρ1.set j (sv.flag (ρ1.getD j .un).isIo)) := fun {sv H' F'} A =>
        S1.change hz.2 e1 A.h A.sub A.f A.new (A.ft S1.ft) (A.at_.flag _) (flag_io (SV.own_of_io A.own)).2 ((flag_io (SV.own_of_io A.own)).1.trans (own_io_hd hz.2))
      cases em : mi ((ρ1.getD j .un).flag true) ds with
      | ok d sv =>
        rw [em] at g1
        exact fun v H' F' A rv => g1 H' F' (back A) A.f v rv
      | exc xx sv =>
        rw [em] at g1
        exact fun d H' F' A rv => g1 d H' F' (back A) A.f rv
      | stuck => rw [em] at g1; exact g1
    · exact g1.elim
  · exact hgd.elim
end

/-- e gives a new list -/
def AN (X : Cx) (W : WX) (e : Expr) (f : M (List D)) : Prop := ∃ t, PE X e t ∧ ∀ G σ H F ρ Q, Stt X.K G σ H F ρ →
  Good X.K G W σ F (f ρ) (fun ds ρ' H' F' => ∀ a vs H2, Stt X.K ⟨G.H0, G.F0, G.io, (a, .lst vs) :: G.xt⟩ σ H2 F' ρ' → Reps X.K F' vs ds → Q (.ref a) H2) → t σ H Q
def mOfN (f : M (List D)) : M D := fun ρ => (f ρ).bind fun ds ρ => .ok (.lst ds) ρ
def mLstN (fs : M (List D)) : M (List D) := fun ρ => (fs ρ).bind fun ds ρ => if ds.length ≤ sizeLine then .ok ds ρ else .stuck
/-- x = a new list, changed later -/
def xOwn (i : Nat) (f : M (List D)) : M Fl := fun ρ => (f ρ).bind fun ds ρ => if (ρ.getD i .un).isIo = true then .stuck else .ok .nx (ρ.set i (.own false ds))
/-- x[e] -/
def mIxN (j : Nat) (fe : M D) : M D := fun ρ => match ρ.getD j .un with
  | .own _ _ => (fe ρ).bind fun i ρ => match ρ.getD j .un, i with
    | .own _ xs, .int k => match atI xs k with
      | some d => .ok d ρ
      | none => .stuck
    | _, _ => .stuck
  | .val d => (fe ρ).bind fun i ρ => (ixD d i).lift ρ
  | _ => .stuck
/-- x[e] = v -/
def xSetIx (j : Nat) (fv fe : M D) : M Fl := fun ρ => (fv ρ).bind fun v ρ => match ρ.getD j .un with
  | .own _ _ => (fe ρ).bind fun i ρ => match ρ.getD j .un, i with
    | .own p xs, .int k => match ixN xs.length k with
      | some n => .ok .nx (ρ.set j (.own p (xs.set n v)))
      | none => .stuck
    | _, _ => .stuck
  | _ => .stuck
/-- x.append(e) -/
def mApp (j : Nat) (fe : M D) : M D := fun ρ => match ρ.getD j .un with
  | .own _ _ => (fe ρ).bind fun v ρ => match ρ.getD j .un with
    | .own p xs => if xs.length < sizeLine then .ok .non (ρ.set j (.own p (xs ++ [v]))) else .stuck
    | _ => .stuck
  | _ => .stuck
/-- len(x) -/
def mLenN (j : Nat) : M D := fun ρ => match ρ.getD j .un with
  | .own _ xs => .ok (.int xs.length) ρ
  | .val d => (lenD [d]).lift ρ
  | _ => .stuck
section
variable {X : Cx} {W : WX} {e b : Expr} {es : List Expr} {fs : M (List D)} {fe fv : M D} {pos py : Pos} {y x : Str}
theorem AE.ofN (h : AN X W e fs) : AE X W e (mOfN fs) := by
  obtain ⟨t, p, q⟩ := h
  refine ⟨_, p, fun G σ H F ρ Q S hg => q G σ H F ρ Q S (hg.bind fun ds ρ1 H1 F1 S1 s1 g1 a vs H2 S2 r => ?_)⟩
  obtain ⟨S3, s3⟩ := S2.xtFreeze
  exact g1 H2 _ S3 s3 _ (.lst upd_same (r.mono s3))
theorem AN.lst (h : AA X W es fs) : AN X W (.List es pos) (mLstN fs) := by
  obtain ⟨t, p, q⟩ := h
  refine ⟨_, pe_lst p, fun G σ H F ρ Q S hg => q G σ H F ρ _ S (hg.bind fun ds ρ1 H1 F1 S1 s1 g1 vs r1 => ?_)⟩
  by_cases hz : ds.length ≤ sizeLine
  · rw [if_pos hz] at g1
    exact ⟨by rw [r1.length]; exact hz, fun a ha => g1 H1 F1 S1 Sm.refl a vs _ (S1.xtNew ha) r1⟩
  · rw [if_neg hz] at g1; exact g1.elim
def mCallN (m : List D → FR (List D)) (n : Nat) (fs : M (List D)) : M (List D) := fun ρ => (fs ρ).bind fun ds ρ => (if ds.length = n then m ds else .stuck).lift ρ
theorem AN.call {k n : Nat} {f : Addr} {fd : FuncData} {ps : List Str} {m : List D → FR (List D)} {p : Pos} (Fn : FnG X.prog X.w X.K X.mg X.base k f fd ps (NSp X.K n m)) (hr : RoomG k X.A) (hg : Gl X x) (hm : X.mg x = some (.ref f)) (hk : PySem.W.keepIn X.K (.ref f) = true) (hb : Binds X.K fd ps []) (tk : L2N.Takes X W)
    (ha : AA X W (e :: es) fs) (hdb : (x == ("__debug__" : Str)) = false := by decide) (he : starEach (e :: es) X.env = (false, eval e X.env) :: starEach es X.env := by rfl) (hpl : (backTo pos (starEach es X.env)).any (·.1) = false := by rfl) :
    AN X W (.Call (.Name x p) (e :: es) [] pos) (mCallN m n fs) := by
  obtain ⟨t, pa, qa⟩ := ha
  refine ⟨_, pe_callW Fn hr hg hm hk hb .nil tk pa hdb he hpl, fun G σ H F ρ Q S hgd => qa G σ H F ρ _ S (hgd.bind fun ds ρ1 H1 F1 S1 s1 g1 vs r1 => ?_)⟩
  split at g1
  · rename_i hz
    refine ⟨by rw [List.append_nil, r1.length]; exact hz, F1, ds, S1.pre, by rw [List.append_nil]; exact r1, ?_⟩
    cases em : m ds with
    | ok xs =>
      rw [em] at g1
      exact fun a ws H' F' A h rw_ => g1 H' F' (S1.aft A) A.f a ws H' (S1.xtAdd A.h A.sub A.f A.new (A.ft S1.ft) h.1 h.2.1 h.2.2) rw_
    | exc xx =>
      rw [em] at g1
      exact fun d H' F' A rv => g1 d H' F' (S1.aft A) A.f rv
    | stuck => rw [em] at g1; exact g1
  · exact g1.elim
/-- return a new list -/
def xRetN (f : M (List D)) : M Fl := fun ρ => (f ρ).bind fun ds ρ => .ok (.rn ds) ρ
theorem AS.retNew (h : AN X W e fs) : AS X W (.Return (some e) pos) (xRetN fs) := by
  obtain ⟨t, p, q⟩ := h
  exact ⟨_, ps_ret p, fun G σ H F ρ Dn S hg => q G σ H F ρ _ S (GoodS.bind hg fun ds ρ1 H1 F1 S1 s1 g1 a vs H2 S2 r => g1 a vs σ H2 F1 S2 Sm.refl r)⟩
theorem AS.own {i : Nat} {pos' : Pos} (hN : X.N.Nodup) (hi : X.N[i]? = some x) (hx : Loc X.env.scope x) (he : AN X W e fs) (hs : swapsWith e (some (.Name x pos')) pos.line X.env = pure false := by rfl) (hf : X.fn x = true ∨ X.env.scope.names.lookup x = some .local := by first | exact .inl rfl | exact .inr rfl) :
    AS X W (.Assign [.Name x pos'] e pos) (xOwn i fs) := by
  obtain ⟨t, p, q⟩ := he
  refine ⟨_, ps_set hN hi hx p hs hf, fun G σ H F ρ Dn S hg => q G σ H F ρ _ S (GoodS.bind hg fun ds ρ1 H1 F1 S1 s1 g1 a vs H2 S2 r => ?_)⟩
  split at g1
  · exact g1.elim
  · rename_i hh
    obtain ⟨e1, e2, _, _⟩ := S2.xt (a, .lst vs) (List.mem_cons_self ..)
    exact g1 _ H2 F1 (S2.xtSlot (by simpa using hh) ⟨a, vs, rfl, e1, e2, r⟩ rfl) Sm.refl
theorem own_at {K : PySem.W.Frag} {G : Ent} {σ : St} {H F : Hp} {ρ : Ro} {j : Nat} {p : Bool} {xs : List D} (S : Stt K G σ H F ρ) (h : ρ.getD j .un = .own p xs) : ∃ a vs, σ[j]? = some (some (V.ref a)) ∧ H a = some (.lst vs) ∧ F a = none ∧ Reps K F vs xs := by
  have q := S.at_ j
  rw [h] at q
  exact q
theorem AE.ixN {j : Nat} (h0 : PE X (.Name y py) (tVar j)) (hb : AE X W b fe) (hs : PlainIx b := by exact fun _ _ => rfl) : AE X W (.Subscript (.Name y py) b pos) (mIxN j fe) := by
  obtain ⟨tb, pb, qb⟩ := hb
  refine ⟨_, pe_ix (IxR.or ix_list (IxR.or ix_tup ix_str)) h0 pb hs, fun G σ H F ρ Q S hg => ?_⟩
  unfold mIxN at hg
  cases e : ρ.getD j .un with
  | own p xs =>
    rw [e] at hg
    obtain ⟨a, vs, e1, e2, e3, r⟩ := own_at S e
    refine ⟨_, e1, qb G σ H F ρ _ S (hg.bind fun di ρ1 H1 F1 S1 s1 g1 u ru => ?_)⟩
    split at g1
    · rename_i p1 ys k e4
      obtain ⟨a', ws, f1, f2, f3, r'⟩ := own_at S1 e4
      rw [e1] at f1; cases f1
      cases ru
      split at g1
      · rename_i d hd
        obtain ⟨w, ew, rw_⟩ := reps_at r' hd
        exact .inl ⟨a, ws, k, w, rfl, rfl, .of f2, ew, g1 H1 F1 S1 Sm.refl _ rw_⟩
      · exact g1.elim
    · exact g1.elim
  | val d =>
    rw [e] at hg
    have q := S.at_ j
    rw [e] at q
    obtain ⟨v, e1, r1⟩ := q
    refine ⟨v, e1, qb G σ H F ρ _ S (hg.bind fun dy ρ2 H2 F2 S2 s2 g2 u r2 => ?_)⟩
    have r1 := r1.mono s2
    cases r2 with
    | int i =>
      cases r1 with
      | str z =>
        simp only [ixD] at g2
        split at g2
        · rename_i hz
          split at g2
          · rename_i c hc
            exact .inr (.inr ⟨z, i, c, rfl, rfl, hz, hc, g2 H2 F2 S2 Sm.refl _ (.str _)⟩)
          · exact g2.elim
        · exact g2.elim
      | tup hx rx =>
        simp only [ixD] at g2
        split at g2
        · rename_i d hd
          obtain ⟨w, e1, rw_⟩ := reps_at rx hd
          exact .inr (.inl ⟨_, _, i, w, rfl, rfl, SqTm S2.sub hx, e1, g2 H2 F2 S2 Sm.refl _ rw_⟩)
        · exact g2.elim
      | lst hx rx =>
        simp only [ixD] at g2
        split at g2
        · rename_i d hd
          obtain ⟨w, e1, rw_⟩ := reps_at rx hd
          exact .inl ⟨_, _, i, w, rfl, rfl, .of (S2.sub _ _ hx), e1, g2 H2 F2 S2 Sm.refl _ rw_⟩
        · exact g2.elim
      | frz hx rx =>
        simp only [ixD] at g2
        split at g2
        · rename_i d hd
          obtain ⟨w, e1, rw_⟩ := reps_at rx hd
          exact .inl ⟨_, _, i, w, rfl, rfl, SqLm S2.sub hx, e1, g2 H2 F2 S2 Sm.refl _ rw_⟩
        · exact g2.elim
      | _ => exact g2.elim
    | _ => exact (by cases d <;> exact g2.elim)
  | un => rw [e] at hg; exact hg.elim
  | ins p C ns ds => rw [e] at hg; exact hg.elim
  | dic p ks ds => rw [e] at hg; exact hg.elim
  | nst p ds => rw [e] at hg; exact hg.elim
  | pin => rw [e] at hg; exact hg.elim
theorem AE.lenN {j : Nat} {px : Pos} (h0 : PE X (.Name y py) (tVar j)) (hg : Gl X "len") (hm : X.mg "len" = none) (he : starEach [.Name y py] X.env = (false, eval (.Name y py) X.env) :: starEach [] X.env := by rfl) (hpl : (backTo pos (starEach [] X.env)).any (·.1) = false := by rfl) : AE X W (.Call (.Name "len" px) [.Name y py] [] pos) (mLenN j) := by
  refine ⟨_, pe_callB call_len hg hm PySem.boot_len (pa_cons h0 pa_nil he) (by decide) (by decide) he hpl, fun G σ H F ρ Q S hgd => ?_⟩
  unfold mLenN at hgd
  cases e : ρ.getD j .un with
  | own p xs =>
    rw [e] at hgd
    obtain ⟨a, vs, e1, e2, e3, r⟩ := own_at S e
    exact ⟨_, e1, _, xs.length, rfl, .inl ⟨vs, .of e2, r.length.symm⟩, hgd H F S Sm.refl _ (.int _)⟩
  | val d =>
    rw [e] at hgd
    have q := S.at_ j
    rw [e] at q
    obtain ⟨v, e1, r1⟩ := q
    refine ⟨v, e1, ?_⟩
    cases r1 with
    | str z =>
      simp only [lenD] at hgd
      split at hgd
      · rename_i hz; exact ⟨_, z.length, rfl, ⟨hz, rfl⟩, hgd H F S Sm.refl _ (.int _)⟩
      · exact hgd.elim
    | tup hx rx => exact ⟨_, _, rfl, .inr ⟨_, SqTm S.sub hx, rx.length.symm⟩, hgd H F S Sm.refl _ (.int _)⟩
    | lst hx rx => exact ⟨_, _, rfl, .inl ⟨_, .of (S.sub _ _ hx), rx.length.symm⟩, hgd H F S Sm.refl _ (.int _)⟩
    | frz hx rx => exact ⟨_, _, rfl, .inl ⟨_, SqLm S.sub hx, rx.length.symm⟩, hgd H F S Sm.refl _ (.int _)⟩
    | _ => exact hgd.elim
  | un => rw [e] at hgd; exact hgd.elim
  | ins p C ns ds => rw [e] at hgd; exact hgd.elim
  | dic p ks ds => rw [e] at hgd; exact hgd.elim
  | nst p ds => rw [e] at hgd; exact hgd.elim
  | pin => rw [e] at hgd; exact hgd.elim
theorem AS.setIx {j : Nat} {p1 : Pos} (hv : AE X W e fv) (h0 : PE X (.Name y py) (tVar j)) (hb : AE X W b fe)
    (hs : swapsWithSole [.Subscript (.Name y py) b p1] e pos.line X.env = pure false := by rfl) (hw : swappedStores [.Subscript (.Name y py) b p1] e X.env = pure none := by rfl) (h1 : (assignEach [.Subscript (.Name y py) b p1] X.env).map (·.2) = [assign (.Subscript (.Name y py) b p1) X.env] := by rfl)
    (ha : ∀ v, assign (.Subscript (.Name y py) b p1) X.env v = (do
      let ov ← holding [v] (eval (.Name y py) X.env)
      let iv ← holding [v, ov] (eval b X.env)
      standAt p1
      holding [v, ov, iv] (setItem ov iv v)
      release [v, ov, iv] []) := by intro _; rfl) : AS X W (.Assign [.Subscript (.Name y py) b p1] e pos) (xSetIx j fv fe) := by
  obtain ⟨tv, pv, qv⟩ := hv
  obtain ⟨tb, pb, qb⟩ := hb
  refine ⟨_, ps_asg pv (pg_sub h0 pb set_list ha) hs hw h1, fun G σ H F ρ Dn S hg => qv G σ H F ρ _ S (GoodS.bind hg fun dv ρ1 H1 F1 S1 s1 g1 v rv => ?_)⟩
  split at g1
  · rename_i p xs e1
    obtain ⟨a, vs, e2, e3, e4, r⟩ := own_at S1 e1
    refine ⟨_, e2, qb G σ H1 F1 ρ1 _ S1 (GoodS.bind g1 fun di ρ2 H2 F2 S2 s2 g2 u ru => ?_)⟩
    split at g2
    · rename_i p2 ys k e5
      obtain ⟨a', ws, f1, f2, f3, r'⟩ := own_at S2 e5
      rw [e2] at f1; cases f1
      cases ru
      split at g2
      · rename_i m hm
        refine ⟨a, ws, k, m, rfl, rfl, f2, by rw [r'.length]; exact hm, ?_⟩
        refine g2 σ _ F2 (S2.change (by rw [e5]; rfl) e2 (S2.own_upd (by rw [e5]; rfl) e2) (fun b o h => ?_) Sm.refl (fun _ _ h => .inl h) S2.ft ⟨a, ws.set m v, rfl, upd_same, f3, r'.set (rv.mono s2) m⟩ rfl (by rw [e5]; rfl)) Sm.refl
        by_cases eb : b = a
        · subst eb; rw [f3] at h; cases h
        · rw [upd_ne eb]; exact S2.sub b o h
      · exact g2.elim
    · exact g2.elim
  · exact g1.elim
theorem AE.app {j : Nat} {ap cp : Pos} (h0 : PE X (.Name y py) (tVar j)) (ha : AE X W e fe) (hst : starEach [e] X.env = (false, eval e X.env) :: starEach [] X.env := by rfl)
    (hbase : attributeBase (.Name y py) "append" X.env (eval (.Name y py) X.env) = eval (.Name y py) X.env := by rfl)
    (hfew : ((backTo cp (starEach [e] X.env)).all (fun x => !x.1) && (backToKw cp (keywordEach [] X.env)).all (fun x => x.1.isSome)
      && decide ([e].length + ([] : List Keyword).length + (if ([] : List Keyword).isEmpty then 0 else 1) < 30)) = true := by rfl)
    (hline : (ap.endLine == cp.line) = true := by rfl) (hplain : (backTo cp (starEach [] X.env)).any (·.1) = false := by rfl) :
    AE X W (.Call (.Attribute (.Name y py) "append" ap) [e] [] cp) (mApp j fe) := by
  obtain ⟨t, p, q⟩ := ha
  refine ⟨_, pe_bm PySem.F.plainAttrs_list PySem.F.slot_list_append PySem.F.type_list_append mt_append h0 (pa_cons p pa_nil hst) hbase hfew hline hst hplain, fun G σ H F ρ Q S hg => ?_⟩
  unfold mApp at hg
  split at hg
  · rename_i p0 xs0 e0
    obtain ⟨a, vs, e1, e2, e3, r⟩ := own_at S e0
    refine ⟨_, e1, .inl ⟨rfl, vs, .of e2⟩, q G σ H F ρ _ S (hg.bind fun v ρ1 H1 F1 S1 s1 g1 w rw_ => ?_)⟩
    split at g1
    · rename_i p1 xs e4
      obtain ⟨a', ws, f1, f2, f3, r'⟩ := own_at S1 e4
      rw [e1] at f1; cases f1
      split at g1
      · rename_i hz
        refine ⟨a, ws, w, rfl, rfl, f2, by rw [r'.length]; exact hz, ?_⟩
        refine g1 _ F1 (S1.change (by rw [e4]; rfl) e1 (S1.own_upd (by rw [e4]; rfl) e1) (fun b o h => ?_) Sm.refl (fun _ _ h => .inl h) S1.ft ⟨a, _, rfl, upd_same, f3, r'.append (.cons rw_ .nil)⟩ rfl (by rw [e4]; rfl)) Sm.refl _ .non
        by_cases eb : b = a
        · subst eb; rw [f3] at h; cases h
        · rw [upd_ne eb]; exact S1.sub b o h
      · exact g1.elim
    · exact g1.elim
  · exact hg.elim
end

section
variable {X : Cx} {W : WX}
end

def wipeR (ρ : Ro) : List Nat → Ro
  | [] => ρ
  | v :: vs => (wipeR ρ vs).set v .un
/-- the slots vs as they stood ahead -/
def backR (ρ0 : Ro) (ρ : Ro) : List Nat → Ro
  | [] => ρ
  | v :: vs => (backR ρ0 ρ vs).set v (ρ0.getD v .un)
def freeR (ρ : Ro) (vs : List Nat) : Bool := vs.all fun v => !(ρ.getD v .un).isIo
def plainR (ρ : Ro) (vs : List Nat) : Bool := vs.all fun v => !(ρ.getD v .un).isFar
def lcM (vs : List Nat) (t : Tg) (c : M Bool) (el : M D) : List D → List D → Ro → R (List D)
  | [], acc, ρ => .ok acc ρ
  | d :: ds, acc, ρ => if plainR ρ vs = true then (putT t d (wipeR ρ vs)).bind fun _ ρ1 => (c ρ1).bind fun k ρ2 =>
      if k = true then (el ρ2).bind fun y ρ3 => if acc.length < sizeLine ∧ freeR ρ3 vs = true then lcM vs t c el ds (acc ++ [y]) (backR ρ ρ3 vs) else .stuck
      else if freeR ρ2 vs = true then lcM vs t c el ds acc (backR ρ ρ2 vs) else .stuck
    else .stuck
/-- no exception leaves -/
def R.nox {α : Type} (r : R α) : R α := match r with
  | .ok a ρ => .ok a ρ
  | _ => .stuck
def mLc (it : M (List D)) (vs : List Nat) (t : Tg) (c : M Bool) (el : M D) : M (List D) := fun ρ => (it ρ).bind fun ds ρ => (lcM vs t c el ds [] ρ).nox
def tYesM : M Bool := fun ρ => .ok true ρ
abbrev W0 : WX := fun _ _ _ _ => False
def ATs (X : Cx) (W : WX) (es : List Expr) (f : M Bool) : Prop := ∃ t, PTs X es t ∧ ∀ G σ H F ρ Q, Stt X.K G σ H F ρ → Good X.K G W σ F (f ρ) (PB Q) → t σ H Q
end Mr
namespace Mr
open PySem PySem.Spec PyProof.Rows L2
variable [Lam] [Pins]

theorem getD_wipe (ρ : Ro) : ∀ (vs : List Nat) (i : Nat), (wipeR ρ vs).getD i .un = if i ∈ vs then .un else ρ.getD i .un
  | [], i => by simp [wipeR]
  | v :: vs, i => by
    unfold wipeR
    rw [getD_set, getD_wipe ρ vs i]
    by_cases h : v = i
    · subst h
      by_cases l : v < (wipeR ρ vs).length
      · simp [l]
      · rw [if_neg (fun c => l c.2)]
        simp only [List.mem_cons, true_or, if_true]
        split
        · rfl
        · rename_i hm
          have hl : ∀ vs : List Nat, (wipeR ρ vs).length = ρ.length := fun vs => by
            induction vs with
            | nil => rfl
            | cons a r ih => unfold wipeR; rw [List.length_set, ih]
          rw [hl] at l
          rw [List.getD_eq_getElem?_getD, List.getElem?_eq_none (by omega)]; rfl
    · rw [if_neg (fun c => h c.1)]
      simp [List.mem_cons, Ne.symm h]
theorem get_wipe (σ : St) : ∀ (vs : List Nat) (i : Nat), i ∉ vs → (wipe σ vs)[i]? = σ[i]?
  | [], i, _ => rfl
  | v :: vs, i, h => by
    unfold wipe
    rw [List.getElem?_set_ne (fun e => h (by simp [e])), get_wipe σ vs i (fun hm => h (List.mem_cons_of_mem _ hm))]
theorem wipe_same {σ τ : St} : ∀ (vs : List Nat), σ.length = τ.length → (∀ i, i ∉ vs → σ[i]? = τ[i]?) → wipe σ vs = wipe τ vs := fun vs hl h => by
  apply List.ext_getElem?
  intro i
  by_cases hi : i ∈ vs
  · have key : ∀ (α : St) (vs : List Nat), i ∈ vs → (wipe α vs)[i]? = if i < α.length then some none else none := fun α vs => by
      induction vs with
      | nil => intro h; cases h
      | cons v r ih =>
        intro h
        unfold wipe
        rw [get_setσ, wipe_length]
        by_cases hv : v = i
        · subst hv
          by_cases l : v < α.length
          · simp [l]
          · rw [if_neg (fun c => l c.2), if_neg l, List.getElem?_eq_none (by rw [wipe_length]; omega)]
        · rw [if_neg (fun c => hv c.1)]
          exact ih ((List.mem_cons.mp h).resolve_left (Ne.symm hv))
    rw [key σ vs hi, key τ vs hi, hl]
  · rw [get_wipe σ vs i hi, get_wipe τ vs i hi, h i hi]
section
variable {K : PySem.W.Frag} {G : Ent} {σ σ2 : St} {H F : Hp} {ρ ρ2 : Ro}
/-- the block's own slots are forgotten -/
theorem Stt.wiped (S : Stt K G σ H F ρ) : ∀ (vs : List Nat), (∀ v ∈ vs, (ρ.getD v .un).isIo = false) → Stt K G (wipe σ vs) H F (wipeR ρ vs)
  | [], _ => S
  | v :: vs, h => by
    have ih := Stt.wiped S vs fun u hu => h u (List.mem_cons_of_mem _ hu)
    refine ih.drop (i := v) (v := none) ?_
    rw [getD_wipe]
    split
    · rfl
    · exact h v (List.mem_cons_self ..)
/-- .. and stand again as they stood -/
theorem Stt.backed {ρ0 : Ro} (S : Stt K G σ2 H F ρ2) (hl : σ.length = σ2.length) : ∀ (vs ws : List Nat), (∀ v ∈ vs, (ρ2.getD v .un).isIo = false) → (∀ v ∈ vs, (ρ0.getD v .un).isFar = false ∧ SlotOk K H F (σ[v]?) (ρ0.getD v .un)) →
    ∃ τ, Stt K G τ H F (backR ρ0 ρ2 vs) ∧ (∀ i, i ∉ vs → τ[i]? = σ2[i]?) ∧ (∀ i ∈ vs, τ[i]? = σ[i]?) ∧ τ.length = σ2.length
  | [], _, _, _ => ⟨σ2, S, fun _ _ => rfl, fun _ h => (nomatch h), rfl⟩
  | v :: vs, ws, h1, h2 => by
    obtain ⟨τ, S1, o1, o2, l1⟩ := Stt.backed S hl vs ws (fun u hu => h1 u (List.mem_cons_of_mem _ hu)) fun u hu => h2 u (List.mem_cons_of_mem _ hu)
    obtain ⟨no, ok⟩ := h2 v (List.mem_cons_self ..)
    have hio : ((backR ρ0 ρ2 vs).getD v .un).isIo = false := by
      have key : ∀ ws : List Nat, (∀ u ∈ ws, (ρ0.getD u .un).isFar = false) → ((backR ρ0 ρ2 ws).getD v .un).isIo = false := fun ws => by
        induction ws with
        | nil => intro _; exact h1 v (List.mem_cons_self ..)
        | cons u r ih =>
          intro hw
          unfold backR
          rw [getD_set]
          split
          · exact SV.far_io (hw u (List.mem_cons_self ..))
          · exact ih fun x hx => hw x (List.mem_cons_of_mem _ hx)
      exact key vs fun u hu => (h2 u (List.mem_cons_of_mem _ hu)).1
    have hio2 : (ρ0.getD v .un).isIo = false := SV.far_io no
    by_cases hv : v < τ.length
    · obtain ⟨x, hx⟩ : ∃ x, σ[v]? = some x := ⟨_, List.getElem?_eq_getElem (by omega)⟩
      rw [hx] at ok
      refine ⟨τ.set v x, S1.set hio ok hio2 (fun hh => by rw [SV.far_own no] at hh; cases hh), fun i hi => ?_, fun i hi => ?_, by rw [List.length_set, l1]⟩
      · rw [List.getElem?_set_ne (fun e => hi (by simp [e]))]
        exact o1 i fun hm => hi (List.mem_cons_of_mem _ hm)
      · by_cases e : v = i
        · subst e; rw [List.getElem?_set_self hv, hx]
        · rw [List.getElem?_set_ne e]
          exact o2 i ((List.mem_cons.mp hi).resolve_left (Ne.symm e))
    · have hs : (backR ρ0 ρ2 vs).set v (ρ0.getD v .un) = backR ρ0 ρ2 vs := List.set_eq_of_length_le (by rw [S1.len]; omega)
      refine ⟨τ, by unfold backR; rw [hs]; exact S1, fun i hi => o1 i fun hm => hi (List.mem_cons_of_mem _ hm), fun i hi => ?_, l1⟩
      by_cases e : v = i
      · subst e; rw [List.getElem?_eq_none (by omega), List.getElem?_eq_none (by omega)]
      · exact o2 i ((List.mem_cons.mp hi).resolve_left (Ne.symm e))
end
mutual
theorem len_putT : ∀ (t : Tg) (d : D) (ρ ρ' : Ro) (u : Unit), putT t d ρ = .ok u ρ' → ρ'.length = ρ.length
  | .sl i, d, ρ, ρ', u, h => by
    unfold putT at h
    split at h
    · cases h
    · cases h; rw [List.length_set]
  | .tp ts, .tup xs, ρ, ρ', u, h => by
    unfold putT at h
    split at h
    · exact len_putTs ts xs ρ ρ' u h
    · cases h
  | .tp ts, .non, ρ, ρ', u, h => by unfold putT at h; cases h
  | .tp ts, .bl _, ρ, ρ', u, h => by unfold putT at h; cases h
  | .tp ts, .int _, ρ, ρ', u, h => by unfold putT at h; cases h
  | .tp ts, .str _, ρ, ρ', u, h => by unfold putT at h; cases h
  | .tp ts, .lst xs, ρ, ρ', u, h => by
    unfold putT at h
    split at h
    · exact len_putTs ts xs ρ ρ' u h
    · cases h
  | .tp ts, .frz _, ρ, ρ', u, h => by unfold putT at h; cases h
  | .tp ts, .obj _ _ _, ρ, ρ', u, h => by unfold putT at h; cases h
  | .tp ts, .dct _ _, ρ, ρ', u, h => by unfold putT at h; cases h
  | .tp ts, .opq _, ρ, ρ', u, h => by unfold putT at h; cases h
  | .tp ts, .any, ρ, ρ', u, h => by unfold putT at h; cases h
theorem len_putTs : ∀ (ts : List Tg) (ds : List D) (ρ ρ' : Ro) (u : Unit), putTs ts ds ρ = .ok u ρ' → ρ'.length = ρ.length
  | [], [], ρ, ρ', u, h => by unfold putTs at h; cases h; rfl
  | [], _ :: _, ρ, ρ', u, h => by unfold putTs at h; cases h
  | _ :: _, [], ρ, ρ', u, h => by unfold putTs at h; cases h
  | t :: ts, d :: ds, ρ, ρ', u, h => by
    unfold putTs at h
    cases e : putT t d ρ with
    | ok v ρ1 =>
      rw [e] at h
      rw [len_putTs ts ds ρ1 ρ' u h, len_putT t d ρ ρ1 v e]
    | exc y ρ1 => rw [e] at h; cases h
    | stuck => rw [e] at h; cases h
end
theorem not_own_io {sv : SV} (h : sv.isFar = false) : sv.isIo = false := SV.far_io h
section
variable {X : Cx} {W : WX} {elt tg iter c : Expr} {ifs : List Expr} {scope : Scope} {own : List (Str × Nat)} {pos : Pos} {it : M (List D)} {t : Tg} {tc : M Bool} {el : M D}
theorem ATs.nil : ATs X W [] tYesM := ⟨_, pts_nil, fun G σ H F ρ Q S hg => hg H F S Sm.refl⟩
theorem ATs.one (h : AT X W c tc) : ATs X W [c] tc := by
  obtain ⟨u, p, q⟩ := h
  exact ⟨_, pts_one p, q⟩
/-- the context of the block -/
abbrev blkX (X : Cx) (scope : Scope) (s : Shared) (H : Hp) (C : Addr) (cl : List (Str × Addr)) (fp : List Addr) : Cx := X.blk s H scope (compEnvC scope cl C X.env) fp
/-- the readings of a comprehension's parts, and what they are worth -/
theorem lc_parts (hi : AI X W tg iter it) (hsl : ∀ i ∈ slT t, i ∈ own.map (·.2))
    (hg : ∀ s H C cl fp, AG (blkX X scope s H C cl fp) tg t) (ht : ∀ s H C cl fp, ATs (blkX X scope s H C cl fp) W0 ifs tc) (he : ∀ s H C cl fp, AE (blkX X scope s H C cl fp) W0 elt el) :
    ∃ wi g tt te, PI X tg iter wi ∧ (∀ s H C cl fp, PG (blkX X scope s H C cl fp) tg g) ∧ (∀ s H C cl fp, PTs (blkX X scope s H C cl fp) ifs tt) ∧ (∀ s H C cl fp, PE (blkX X scope s H C cl fp) elt te) ∧
      ∀ G σ H F ρ Q, Stt X.K G σ H F ρ → Good X.K G W σ F (mLc it (own.map (·.2)) t tc el ρ) (fun ds ρ' H' F' => ∀ a vs H2, Stt X.K ⟨G.H0, G.F0, G.io, (a, .lst vs) :: G.xt⟩ σ H2 F' ρ' → Reps X.K F' vs ds → Q (.ref a) H2) → tLc wi g tt te (own.map (·.2)) σ H Q := by
  obtain ⟨wi, pi, qi⟩ := hi
  -- one reading for every block
  let g : TG := fun v σ H Q => ∀ s H0 C cl fp, (Classical.choose (hg s H0 C cl fp)) v σ H Q
  let tt : TT := fun σ H Q => ∀ s H0 C cl fp, (Classical.choose (ht s H0 C cl fp)) σ H Q
  let te : TE := fun σ H Q => ∀ s H0 C cl fp, (Classical.choose (he s H0 C cl fp)) σ H Q
  have pg : ∀ s H C cl fp, PG (blkX X scope s H C cl fp) tg g := fun s H C cl fp => ⟨fun pins s1 σ H1 v u Q I r h => (Classical.choose_spec (hg s H C cl fp)).1.run pins s1 σ H1 v u Q I r (h s H C cl fp)⟩
  have pt : ∀ s H C cl fp, PTs (blkX X scope s H C cl fp) ifs tt := fun s H C cl fp => ⟨fun pins s1 σ H1 Q I h => (Classical.choose_spec (ht s H C cl fp)).1.run pins s1 σ H1 Q I (h s H C cl fp)⟩
  have pe : ∀ s H C cl fp, PE (blkX X scope s H C cl fp) elt te := fun s H C cl fp => ⟨fun pins s1 σ H1 Q I h => (Classical.choose_spec (he s H C cl fp)).1.run pins s1 σ H1 Q I (h s H C cl fp)⟩
  have qg : ∀ G σ H F ρ v d Q, Stt X.K G σ H F ρ → Rep X.K F v d → GoodT X.K G F σ (slT t) (putT t d ρ) Q → g v σ H Q := fun G σ H F ρ v d Q S r h s H0 C cl fp => (Classical.choose_spec (hg s H0 C cl fp)).2 G σ H F ρ v d Q S r h
  have qt : ∀ G σ H F ρ Q, Stt X.K G σ H F ρ → Good X.K G W0 σ F (tc ρ) (PB Q) → tt σ H Q := fun G σ H F ρ Q S h s H0 C cl fp => (Classical.choose_spec (ht s H0 C cl fp)).2 G σ H F ρ Q S h
  have qe : ∀ G σ H F ρ Q, Stt X.K G σ H F ρ → Good X.K G W0 σ F (el ρ) (PD X.K Q) → te σ H Q := fun G σ H F ρ Q S h s H0 C cl fp => (Classical.choose_spec (he s H0 C cl fp)).2 G σ H F ρ Q S h
  refine ⟨wi, g, tt, te, pi, pg, pt, pe, fun G σ H F ρ Q S hgd => qi G σ H F ρ _ S (hgd.bind fun ds ρ1 H1 F1 S1 s1 g1 J hJ Da hDa => ?_)⟩
  generalize hvs : own.map (·.2) = vs at hsl g1 ⊢
  -- the list at Da waits
  let GX : List V → Ent := fun ws => ⟨G.H0, G.F0, G.io, (Da, .lst ws) :: G.xt⟩
  refine ⟨fun i m H' => i + m = ds.length ∧ ∃ F' ρ' ws acc, Stt X.K (GX ws) σ H' F' ρ' ∧ Sm F1 F' ∧ Reps X.K F' ws acc ∧ Good X.K G W σ F' ((lcM vs t tc el (ds.drop i) acc ρ').nox) (fun ds ρ' H' F' => ∀ a vs H2, Stt X.K ⟨G.H0, G.F0, G.io, (a, .lst vs) :: G.xt⟩ σ H2 F' ρ' → Reps X.K F' vs ds → Q (.ref a) H2),
    ⟨ds.length, by omega, F1, ρ1, [], [], S1.xtNew hDa, Sm.refl, .nil, by rw [List.drop_zero]; exact g1⟩, ?_⟩
  rintro i m H' ⟨hm, F', ρ', ws, acc, S', s', ra, hgf⟩
  obtain ⟨stop, go⟩ := hJ i H' F' s' S'.sub
  by_cases hlt : i < ds.length
  · rw [List.drop_eq_getElem_cons hlt] at hgf
    obtain ⟨hgo, hy⟩ := go ds[i] (List.getElem?_eq_getElem hlt)
    refine .inr ⟨hgo, fun H2 => (i + 1) + (m - 1) = ds.length ∧ ∃ F' ρ' ws acc, Stt X.K (GX ws) σ H2 F' ρ' ∧ Sm F1 F' ∧ Reps X.K F' ws acc ∧ Good X.K G W σ F' ((lcM vs t tc el (ds.drop (i + 1)) acc ρ').nox) (fun ds ρ' H' F' => ∀ a vs H2, Stt X.K ⟨G.H0, G.F0, G.io, (a, .lst vs) :: G.xt⟩ σ H2 F' ρ' → Reps X.K F' vs ds → Q (.ref a) H2),
      fun H2 hn => ⟨m - 1, by omega, hn⟩, fun x H2 hyl => ?_⟩
    obtain ⟨F2, A2, r2⟩ := hy x H2 hyl
    have S2 := S'.aft A2
    have ra2 := ra.mono A2.f
    unfold lcM at hgf
    by_cases hpl : plainR ρ' vs = true
    · rw [if_pos hpl] at hgf
      have hpl' : ∀ v ∈ vs, (ρ'.getD v .un).isFar = false := fun v hv => by
        have := List.all_eq_true.mp hpl v hv
        simpa using this
      have S3 := S2.wiped vs fun v hv => not_own_io (hpl' v hv)
      refine qg (GX ws) (wipe σ vs) H2 F2 (wipeR ρ' vs) x _ _ S3 r2 ?_
      cases e : putT t ds[i] (wipeR ρ' vs) with
      | ok u ρ3 =>
        rw [e] at hgf
        refine fun σ3 H3 F3 S4 s4 o4 => ?_
        have l3 : σ3.length = (wipe σ vs).length := by
          rw [← S4.len, len_putT _ _ _ _ _ e, ← S3.len]
        have w3 : wipe σ3 vs = wipe σ vs := by
          refine wipe_same vs (by rw [l3, wipe_length]) fun j hj => ?_
          rw [o4 j fun hm => hj (hsl j hm), get_wipe σ vs j hj]
        have o3 : ∀ j, j ∉ vs → σ3[j]? = σ[j]? := fun j hj => by rw [o4 j fun hm => hj (hsl j hm), get_wipe σ vs j hj]
        refine ⟨w3, ?_⟩
        have ra3 := ra2.mono s4
        -- back to the slots of the def
        have back : ∀ {ws' : List V} {H6 F6 : Hp} {ρ6 : Ro}, Stt X.K (GX ws') σ3 H6 F6 ρ6 → Sm F3 F6 → freeR ρ6 vs = true → Stt X.K (GX ws') σ H6 F6 (backR ρ' ρ6 vs) := fun {ws' H6 F6 ρ6} S6 s6 hf => by
          have hf' : ∀ v ∈ vs, (ρ6.getD v .un).isIo = false := fun v hv => by
            have := List.all_eq_true.mp hf v hv
            simpa using this
          obtain ⟨τ, Sτ, t1, t2, tl⟩ := S6.backed (σ := σ) (ρ0 := ρ') (by rw [l3, wipe_length]) vs vs hf' fun v hv => ⟨hpl' v hv, by
            have q := S'.at_ v
            have no := hpl' v hv
            cases ev : ρ'.getD v .un with
            | un => trivial
            | val d => rw [ev] at q; obtain ⟨w, e1, r⟩ := q; exact ⟨w, e1, r.mono (A2.f.tr (s4.tr s6))⟩
            | own p xs => rw [ev] at no; cases no
            | ins p C ns dd => rw [ev] at no; cases no
            | dic p ks dd => rw [ev] at no; cases no
            | nst p dd => rw [ev] at no; cases no
            | pin => rw [ev] at no; cases no⟩
          have eτ : τ = σ := by
            apply List.ext_getElem?
            intro j
            by_cases hj : j ∈ vs
            · exact t2 j hj
            · rw [t1 j hj, o3 j hj]
          rw [eτ] at Sτ
          exact Sτ
        have hgf : Good X.K G W σ F3 (((tc ρ3).bind fun k ρ2 =>
            if k = true then (el ρ2).bind fun y ρ3 => if acc.length < sizeLine ∧ freeR ρ3 vs = true then lcM vs t tc el (ds.drop (i + 1)) (acc ++ [y]) (backR ρ' ρ3 vs) else .stuck
            else if freeR ρ2 vs = true then lcM vs t tc el (ds.drop (i + 1)) acc (backR ρ' ρ2 vs) else .stuck).nox) _ := Good.mono (A2.f.tr s4) hgf
        refine qt (GX ws) σ3 H3 F3 ρ3 _ S4 ?_
        cases ec : tc ρ3 with
        | ok k ρ4 =>
          rw [ec] at hgf
          refine fun H5 F5 S5 s5 => ?_
          have ra5 := ra3.mono s5
          cases k with
          | true =>
            show if true = true then _ else _
            rw [if_pos rfl]
            refine qe (GX ws) σ3 H5 F5 ρ4 _ S5 ?_
            have hgf : Good X.K G W σ F5 (((el ρ4).bind fun y ρ3 => if acc.length < sizeLine ∧ freeR ρ3 vs = true then lcM vs t tc el (ds.drop (i + 1)) (acc ++ [y]) (backR ρ' ρ3 vs) else .stuck).nox) _ := Good.mono s5 hgf
            cases ee : el ρ4 with
            | ok y ρ5 =>
              rw [ee] at hgf
              refine fun H6 F6 S6 s6 v rv => ?_
              have hgf : Good X.K G W σ F6 ((if acc.length < sizeLine ∧ freeR ρ5 vs = true then lcM vs t tc el (ds.drop (i + 1)) (acc ++ [y]) (backR ρ' ρ5 vs) else .stuck).nox) _ := Good.mono s6 hgf
              split at hgf
              · rename_i hz
                have S7 := back S6 (s5.tr s6) hz.2
                obtain ⟨x1, x2, x3, x4⟩ := S6.xt (Da, .lst ws) (List.mem_cons_self ..)
                refine ⟨ws, x1, by rw [ra.length]; exact hz.1, by omega, F6, _, ws ++ [v], acc ++ [y], S7.xtUpd, s'.tr (A2.f.tr (s4.tr (s5.tr s6))), (ra5.mono s6).append (.cons rv .nil), hgf⟩
              · exact hgf.elim
            | exc xx ρ5 => rw [ee] at hgf; exact hgf.elim
            | stuck => rw [ee] at hgf; exact hgf.elim
          | false =>
            show if false = true then _ else _
            rw [if_neg Bool.false_ne_true]
            have hgf : Good X.K G W σ F5 ((if freeR ρ4 vs = true then lcM vs t tc el (ds.drop (i + 1)) acc (backR ρ' ρ4 vs) else .stuck).nox) _ := Good.mono s5 hgf
            split at hgf
            · rename_i hz
              exact ⟨by omega, F5, _, ws, acc, back S5 s5 hz, s'.tr (A2.f.tr (s4.tr s5)), ra5, hgf⟩
            · exact hgf.elim
        | exc xx ρ4 => rw [ec] at hgf; exact hgf.elim
        | stuck => rw [ec] at hgf; exact hgf.elim
      | exc xx ρ3 => rw [e] at hgf; exact hgf.elim
      | stuck => rw [e] at hgf; exact hgf.elim
    · rw [if_neg hpl] at hgf; exact hgf.elim
  · have e0 : ds.drop i = [] := List.drop_eq_nil_of_le (by omega)
    rw [e0] at hgf
    have hgf : Good X.K G W σ F' (.ok acc ρ') (fun ds ρ' H' F' => ∀ a vs H2, Stt X.K ⟨G.H0, G.F0, G.io, (a, .lst vs) :: G.xt⟩ σ H2 F' ρ' → Reps X.K F' vs ds → Q (.ref a) H2) := hgf
    exact .inl ⟨stop (by omega), hgf H' F' S'.xtDrop Sm.refl Da ws H' S' ra⟩
theorem AN.lc (hc : X.calm = true) (hN : X.N.Nodup) (hi : AI X W tg iter it) (ok : BlkOk X.N X.env.scope scope own) (hsl : ∀ i ∈ slT t, i ∈ own.map (·.2))
    (hg : ∀ s H C cl fp, AG (blkX X scope s H C cl fp) tg t) (ht : ∀ s H C cl fp, ATs (blkX X scope s H C cl fp) W0 ifs tc) (he : ∀ s H C cl fp, AE (blkX X scope s H C cl fp) W0 elt el)
    (hs : ∀ x, foldedSetIterable iter X.env x = pure x := by intro _; rfl) : AN X W (.ListComp elt [⟨tg, iter, ifs, 0⟩] scope pos) (mLc it (own.map (·.2)) t tc el) := by
  obtain ⟨wi, g, tt, te, pi, pg, pt, pe, q⟩ := lc_parts hi hsl hg ht he
  exact ⟨_, pe_lc hc hN pi ok pg pt pe hs, q⟩
/-- name = [..], the name a local -/
theorem AS.setLc {i : Nat} {y : Str} {py spos : Pos} (hc : X.calm = true) (hN : X.N.Nodup) (hy : X.N[i]? = some y) (hyl : X.env.scope.names.lookup y = some .local)
    (hsw : swapsWith (.ListComp elt [⟨tg, iter, ifs, 0⟩] scope pos) (some (.Name y py)) spos.line X.env = pure true) (hi : AI X W tg iter it) (ok : BlkOk X.N X.env.scope scope own) (hsl : ∀ i ∈ slT t, i ∈ own.map (·.2))
    (hg : ∀ s H C cl fp, AG (blkX X scope s H C cl fp) tg t) (ht : ∀ s H C cl fp, ATs (blkX X scope s H C cl fp) W0 ifs tc) (he : ∀ s H C cl fp, AE (blkX X scope s H C cl fp) W0 elt el)
    (hs : ∀ x, foldedSetIterable iter X.env x = pure x := by intro _; rfl) : AS X W (.Assign [.Name y py] (.ListComp elt [⟨tg, iter, ifs, 0⟩] scope pos) spos) (xPut (.sl i) (mOfN (mLc it (own.map (·.2)) t tc el))) := by
  obtain ⟨wi, g, tt, te, pi, pg, pt, pe, q⟩ := lc_parts hi hsl hg ht he
  refine ⟨_, ps_setLc hc hN hy hyl hsw pi ok pg pt pe hs, fun G σ H F ρ Dn S hgd => ?_⟩
  have hgd : GoodS X.K G W F ((mOfN (mLc it (own.map (·.2)) t tc el) ρ).bind fun d ρ => (putT (.sl i) d ρ).bind fun _ ρ => .ok .nx ρ) Dn := hgd
  unfold mOfN at hgd
  have h2 : GoodS X.K G W F ((mLc it (own.map (·.2)) t tc el ρ).bind fun ds ρ => (putT (.sl i) (.lst ds) ρ).bind fun _ ρ => .ok .nx ρ) Dn := by
    cases e : mLc it (own.map (·.2)) t tc el ρ <;> (rw [e] at hgd; exact hgd)
  refine q G σ H F ρ _ S (GoodS.bind h2 fun ds ρ1 H1 F1 S1 s1 g1 a vs H2 S2 r => ?_)
  obtain ⟨S3, s3⟩ := S2.xtFreeze
  unfold putT at g1
  split at g1
  · exact g1.elim
  · rename_i hh
    exact g1 _ H2 _ (S3.setVal (by simpa using hh) (.lst upd_same (r.mono s3))) s3
/-- .. to be changed later -/
theorem AS.ownLc {i : Nat} {y : Str} {py spos : Pos} (hc : X.calm = true) (hN : X.N.Nodup) (hy : X.N[i]? = some y) (hyl : X.env.scope.names.lookup y = some .local)
    (hsw : swapsWith (.ListComp elt [⟨tg, iter, ifs, 0⟩] scope pos) (some (.Name y py)) spos.line X.env = pure true) (hi : AI X W tg iter it) (ok : BlkOk X.N X.env.scope scope own) (hsl : ∀ i ∈ slT t, i ∈ own.map (·.2))
    (hg : ∀ s H C cl fp, AG (blkX X scope s H C cl fp) tg t) (ht : ∀ s H C cl fp, ATs (blkX X scope s H C cl fp) W0 ifs tc) (he : ∀ s H C cl fp, AE (blkX X scope s H C cl fp) W0 elt el)
    (hs : ∀ x, foldedSetIterable iter X.env x = pure x := by intro _; rfl) : AS X W (.Assign [.Name y py] (.ListComp elt [⟨tg, iter, ifs, 0⟩] scope pos) spos) (xOwn i (mLc it (own.map (·.2)) t tc el)) := by
  obtain ⟨wi, g, tt, te, pi, pg, pt, pe, q⟩ := lc_parts hi hsl hg ht he
  refine ⟨_, ps_setLc hc hN hy hyl hsw pi ok pg pt pe hs, fun G σ H F ρ Dn S hgd => q G σ H F ρ _ S (GoodS.bind hgd fun ds ρ1 H1 F1 S1 s1 g1 a vs H2 S2 r => ?_)⟩
  split at g1
  · exact g1.elim
  · rename_i hh
    obtain ⟨e1, e2, _, _⟩ := S2.xt (a, .lst vs) (List.mem_cons_self ..)
    exact g1 _ H2 F1 (S2.xtSlot (by simpa using hh) ⟨a, vs, rfl, e1, e2, r⟩ rfl) Sm.refl
end
end Mr
namespace Mr
open PySem PySem.Spec PyProof.Rows L2
variable [Lam] [Pins]

def xNever : M Fl := fun _ => .stuck
def xBk : M Fl := fun ρ => .ok .bk ρ
def xCt : M Fl := fun ρ => .ok .ct ρ
/-- i, j = .. -/
def xPar (i j : Nat) (fs : M (List D)) : M Fl := fun ρ => (fs ρ).bind fun ds ρ => match ds with
  | [d, e] => (putT (.sl i) d ρ).bind fun _ ρ => (putT (.sl j) e ρ).bind fun _ ρ => .ok .nx ρ
  | _ => .stuck
section
variable {X : Cx} {W : WX} {st : Stmt} {pos : Pos}
theorem AE.ty {T : String} {x : Str} (hg : Gl X x) (hm : X.mg x = none) (hv : bootBuiltins x = some (.type T)) (hn : x ≠ "__name__" := by decide) (hd : (x == ("__debug__" : Str)) = false := by decide) : AE X W (.Name x pos) (mC (.opq (.ty T))) :=
  .cst (v := .ty T) (pe_bltn hg hm hv rfl hn hd) fun _ _ => .opq _
theorem AS.never : AS X W st xNever := ⟨_, ps_never, fun G σ H F ρ Dn S hg => hg.elim⟩
theorem AS.bk : AS X W (.Break pos) xBk := AS.brk
theorem AS.ct : AS X W (.Continue pos) xCt := AS.cont
theorem AS.par {i j : Nat} {x y : Str} {a b : Expr} {fs : M (List D)} {px py pt : Pos} {kt k2 pt2} (hc : X.calm = true) (hN : X.N.Nodup) (hi : X.N[i]? = some x) (hj : X.N[j]? = some y) (hij : i ≠ j)
    (hx : X.env.scope.names.lookup x = some .local) (hy : X.env.scope.names.lookup y = some .local) (ha : AA X W [a, b] fs)
    (hw : swappedStores [.Tuple [.Name x px, .Name y py] kt pt] (.Tuple [a, b] k2 pt2) X.env = pure (some [x, y]) := by rfl)
    (hs : swapsWithSole [.Tuple [.Name x px, .Name y py] kt pt] (.Tuple [a, b] k2 pt2) pos.line X.env = pure false := by rfl) :
    AS X W (.Assign [.Tuple [.Name x px, .Name y py] kt pt] (.Tuple [a, b] k2 pt2) pos) (xPar i j fs) := by
  obtain ⟨t, p, q⟩ := ha
  refine ⟨_, ps_par hc hN hi hj hij hx hy p hw hs, fun G σ H F ρ Dn S hg => q G σ H F ρ _ S (GoodS.bind hg fun ds ρ1 H1 F1 S1 s1 g1 vs r1 => ?_)⟩
  split at g1
  · obtain ⟨v, u, rfl, rv, ru⟩ := reps2 r1
    refine ⟨v, u, rfl, ?_⟩
    unfold putT at g1
    split at g1
    · exact g1.elim
    · rename_i h1
      have g1 : GoodS X.K G W F1 ((if ((ρ1.set i (.val _)).getD j .un).isIo = true then R.stuck else .ok () ((ρ1.set i (.val _)).set j (.val _))).bind fun _ ρ => .ok .nx ρ) Dn := g1
      split at g1
      · exact g1.elim
      · rename_i h2
        have S2 := S1.setVal (i := i) (by simpa using h1) rv
        exact g1 _ H1 F1 (S2.setVal (by simpa using h2) ru) Sm.refl
  · exact g1.elim
end
end Mr
namespace Mr
open PySem PySem.Spec PyProof.Rows L2
variable [Lam] [Pins]
/-- a table of the text's, as it stands where the law is called -/
structure TabAt (K : PySem.W.Frag) (h : Heap) (P : Addr) : Prop where
  cd : ∃ c, PySem.W.codeHdIn K c P = true
  no : K.lookup P = none
  at_ : h.get? P = some { cls := .none, data := .fields #[] }
/-- what is tracked where the law is called: the script, the tables -/
def Starts (T : List Addr) (H : Hp) : Prop := ∀ b, H b = none ∨ (b ∈ T ∧ H b = some (.tbl #[])) ∨ ∃ o xs, H b = some (.frz o (.lst xs))
/-- the law's def, called at the script: its promise over what the top left -/
theorem law_callG {P : Program} {w : World} {K : PySem.W.Frag} {mg mb : Str → Option Value} {k : Nat} {fa a : Addr} {fd : FuncData} {x : Str} {sp : Sp} {s : Shared} {vs : List Value} {ns : List Int} (T : List Addr) (hT : ∀ p ∈ T, TabAt K s.heap p)
    (KX : K.In s.heap) (hns : s.heap.Ns mainGlobals mg) (hb : s.heap.Ns builtinsNs mb) (hbb : ∀ x : Str, x ≠ "__name__" → mb x = bootBuiltins x) (hlim : s.heap.NoLimit) (hg : s.gens = #[])
    (ha : s.heap.get? a = some { cls := .type "list", data := .seq vs.toArray }) (hi : IntsAre vs ns) (hl : ns.length ≤ sizeLine) (hr : RoomG k callerA)
    (F : ∀ base : Heap, FnG P w K mg base k fa fd [x] sp) (hbind : ∀ (s : Shared) (u : Value), BindsTo s fd ⟨[u], []⟩ [(x, u)])
    (hsp : ∀ H : Hp, (∀ p ∈ T, H p = some (.tbl #[])) → SqL K H a (ns.map V.int) → sp [.ref a] H (fun v _ => v = .bl true) fun _ _ _ => False)
    (hCX : ∀ H e s', L2N.CX P w [] H s (fun _ _ _ => False) e s' → False) :
    codeAny (model P w) callerA (.call (.ref fa) ⟨[.ref a], []⟩) (fun r s' => r = .ok (.ret (.bool true)) ∧ OldK s.heap s'.heap ∧ s'.os = s.os ∧ AllBare s'.gens) s := by
  have aT : a ∉ T := fun z => by
    have q := (hT a z).at_
    rw [ha] at q
    cases q
  have run : ∀ H : Hp, (∀ p ∈ T, H p = some (.tbl #[])) → Starts T H → SqL K H a (ns.map V.int) → HOk P w H s.heap → (∀ b, H b ≠ none → b = a ∨ b ∈ T) → (H a ≠ none → K.lookup a = none) →
      codeAny (model P w) callerA (.call (.ref fa) ⟨[.ref a], []⟩) (fun r s' => r = .ok (.ret (.bool true)) ∧ OldK s.heap s'.heap ∧ s'.os = s.os ∧ AllBare s'.gens) s := by
    intro H tabs only sq ok onlyA outK
    have hid : ∀ {b : Addr} {o : Obj}, s.heap.get? b = some o → H b = none → (hidT s.heap H).get? b = some o := fun e n => hidT_get e n
    have noDict : ∀ {b : Addr} {o : Obj} {es : Array DictEntry} {n : Nat}, s.heap.get? b = some o → o.data = .dict es n → H b = none := by
      intro b o es n e d
      cases q : H b with
      | none => rfl
      | some u =>
        rcases onlyA b (by rw [q]; simp) with eb | eb
        · rw [eb, ha] at e
          cases e
          cases (show Data.seq vs.toArray _ = Data.dict es n from d)
        · rw [(hT b eb).at_] at e
          cases e
          cases (show Data.fields #[] = Data.dict es n from d)
    have ns_ : ∀ {b : Addr} {m : Str → Option Value}, s.heap.Ns b m → (hidT s.heap H).Ns b m := fun ⟨o, es, n, e, d, r⟩ => ⟨o, es, n, hid e (noDict e d), d, r⟩
    have kIn : K.In (hidT s.heap H) := fun b o e => by
      refine hid (KX b o e) ?_
      cases q : H b with
      | none => rfl
      | some u =>
        rcases onlyA b (by rw [q]; simp) with eb | eb
        · rw [eb, outK (by rw [← eb, q]; simp)] at e
          cases e
        · rw [(hT b eb).no] at e
          cases e
    have md : Mod K mg (hidT s.heap H) := ⟨kIn, ns_ hns, ⟨mb, ns_ hb, hbb⟩, hlim.elim fun mc h => ⟨mc, ns_ h.1, h.2⟩⟩
    have e0 : Env0 P w K mg (hidT s.heap H) callerA [] s H := ⟨rfl, md, fun b o e => of_hidT e, Nat.le_of_eq (hidT_size _ _), trivial, fun b hb => (by cases (show b ∈ ([] : List Addr) from hb)), ok, .of_eq hg⟩
    refine codeAny_mono ((F (hidT s.heap H)).run callerA [] s H ⟨[.ref a], []⟩ [.ref a] [.ref a] _ _ hr e0 (hbind s (.ref a)) (.cons rfl .nil) (hsp H tabs sq)) fun r s2 h => ?_
    match r, h with
    | .error e, h => exact (hCX H e s2 h).elim
    | .ok .next, h => exact False.elim h
    | .ok .brk, h => exact False.elim h
    | .ok .cont, h => exact False.elim h
    | .ok (.ret u), ⟨v, H2, os, bare, un, ok2, rv, q⟩ =>
      have q : v = .bl true := q
      rw [q] at rv
      have ru : u = Value.bool true := rv
      rw [ru]
      have kept : ∀ b o, b ∉ T → s.heap.get? b = some o → s2.heap.get? b = some o := fun b o nb e => by
        cases hb : H b with
        | none => exact un.keep b o e hb (fun z => by cases z) (by simp)
        | some y =>
          rcases only b with z | ⟨z, _⟩ | ⟨ob, xs, z⟩
          · rw [hb] at z; cases z
          · exact absurd z nb
          · have e1 := (ok b _ z).1
            have e2 := (ok2 b _ (un.frzs b ob _ z)).1
            rw [e] at e1; cases e1
            exact e2
      have big : ∀ p ∈ T, ∃ more : Array Value, s2.heap.get? p = some { cls := .none, data := .fields more } := fun p hp => by
        obtain ⟨more, z⟩ := un.tbls p #[] (tabs p hp)
        exact ⟨_, ok2 p _ z⟩
      refine ⟨rfl, ⟨fun b o e => ?_, fun b o e => ?_⟩, os, bare⟩
      · by_cases hb : b ∈ T
        · obtain ⟨more, hm⟩ := big b hb
          have at0 := (hT b hb).at_
          obtain ⟨c, hc⟩ := (hT b hb).cd
          rw [at0] at e
          cases e
          refine .inr (.inl ⟨((PySem.W.codeHd_of_K KX hc).tab at0).isCodeTable, rfl, #[], more, rfl, ?_⟩)
          rw [Array.empty_append]
          exact hm
        · exact .inl (kept b o hb e)
      · by_cases hb : b ∈ T
        · obtain ⟨more, hm⟩ := big b hb
          exact ⟨_, hm⟩
        · exact ⟨o, kept b o hb e⟩
  have lenV := hi.length
  have rv := vals_ints hi
  obtain ⟨Ht, yesT, noT⟩ : ∃ Ht : Hp, (∀ b, b ∈ T → Ht b = some (.tbl #[])) ∧ ∀ b, b ∉ T → Ht b = none := ⟨fun b => if b ∈ T then some (.tbl #[]) else none, fun b e => if_pos e, fun b e => if_neg e⟩
  cases hk : K.lookup a with
  | some o =>
    have e := KX a o hk
    rw [ha] at e
    cases e
    refine run Ht yesT (fun b => ?_) (.inr ⟨_, vs.toArray, _, hk, rfl, rfl, rfl, by rw [List.size_toArray, lenV]; exact hl, by simpa using rv⟩) (fun b u z => ?_) (fun b z => ?_) fun z => absurd (noT a aT) z
    · by_cases h : b ∈ T
      · exact .inr (.inl ⟨h, yesT b h⟩)
      · exact .inl (noT b h)
    · by_cases h : b ∈ T
      · rw [yesT b h] at z
        cases z
        exact (hT b h).at_
      · rw [noT b h] at z; cases z
    · exact .inr (Classical.byContradiction fun h => z (noT b h))
  | none =>
    obtain ⟨Ha, yes, no⟩ : ∃ Ha : Hp, (∀ b, b = a → Ha b = some (HO.frz { cls := .type "list", data := .seq vs.toArray } (.lst (ns.map V.int)))) ∧ ∀ b, b ≠ a → Ha b = Ht b :=
      ⟨fun b => if b = a then some (HO.frz { cls := .type "list", data := .seq vs.toArray } (.lst (ns.map V.int))) else Ht b, fun b e => if_pos e, fun b e => if_neg e⟩
    refine run Ha (fun p hp => ?_) (fun b => ?_) (.inl (.inr ⟨_, yes a rfl⟩)) (fun b u z => ?_) (fun b z => ?_) fun _ => hk
    · rw [no p fun e => aT (e ▸ hp)]
      exact yesT p hp
    · by_cases e : b = a
      · exact .inr (.inr ⟨_, _, yes b e⟩)
      · rw [no b e]
        by_cases h : b ∈ T
        · exact .inr (.inl ⟨h, yesT b h⟩)
        · exact .inl (noT b h)
    · by_cases e : b = a
      · have z' := (yes b e).symm.trans z
        cases z'
        rw [e]
        exact ⟨ha, by rw [List.length_map]; exact hl, vs, _, rv, ha⟩
      · rw [no b e] at z
        by_cases h : b ∈ T
        · rw [yesT b h] at z
          cases z
          exact (hT b h).at_
        · rw [noT b h] at z; cases z
    · by_cases e : b = a
      · exact .inl e
      · refine .inr (Classical.byContradiction fun h => z ?_)
        rw [no b e, noT b h]
/-- the heap without its tables -/
def offT (H : Hp) : Hp := fun b => match H b with
  | some (.tbl _) => none
  | o => o
theorem offT_at {H : Hp} {b : Addr} {o : HO} (h : H b = some o) (n : isTb o = false) : offT H b = some o := by
  unfold offT
  rw [h]
  cases o <;> first | rfl | cases n
theorem offT_of {H : Hp} {b : Addr} {o : HO} (h : offT H b = some o) : H b = some o ∧ isTb o = false := by
  unfold offT at h
  cases e : H b with
  | none => rw [e] at h; cases h
  | some u =>
    rw [e] at h
    cases u <;> first | (cases h; exact ⟨rfl, rfl⟩) | cases h
theorem offT_sq {K : PySem.W.Frag} {H : Hp} {a : Addr} {xs : List V} (h : SqL K H a xs) : SqL K (offT H) a xs := by
  rcases h with (h | ⟨o, h⟩) | h
  · exact .inl (.inl (offT_at h rfl))
  · exact .inl (.inr ⟨o, offT_at h rfl⟩)
  · exact .inr h
/-- the law's promise of its mirror -/
theorem law_psp {K : PySem.W.Frag} {m : List D → FR D} {H : Hp} {a : Addr} {ns : List Int} (hH : ∀ p ∈ (Lam.T K).map (·.1), H p = some (.tbl #[])) (hS : SqL K H a (ns.map V.int)) (hm : m [.frz (ns.map .int)] = .ok (.bl true)) :
    PSp K 1 m [.ref a] H (fun v _ => v = .bl true) fun _ _ _ => False := by
  refine ⟨rfl, offT H, [.frz (ns.map .int)], ⟨fun b o e => (offT_of e).1, fun b o e => (offT_of e).2, fun p hp => LamX.TabS.nil (hH p.1 (List.mem_map.mpr ⟨p, hp, rfl⟩))⟩, .cons (.frz (offT_sq hS) (Reps.of_ints ns)) .nil, ?_⟩
  rw [hm]
  intro v H' F' _ r
  cases r
  rfl
end Mr
namespace Mr
open PySem PySem.Spec PyProof.Rows L2
variable [Lam] [Pins]

/-- the j-th statement of a class's body -/
def inCls (st : Stmt) (j : Nat) : Stmt := match st with
  | .ClassDef _ _ _ body _ _ _ _ _ _ _ => body.getD j (.Pass ⟨0, 0, 0, 0⟩)
  | _ => .Pass ⟨0, 0, 0, 0⟩
/-- the field f is y from now on -/
def putN (f : Str) : List Str → List Str
  | [] => [f]
  | n :: ns => if n = f then n :: ns else n :: putN f ns
def putX {α : Type} (f : Str) (y : α) : List Str → List α → List α
  | n :: ns, v :: vs => if n = f then y :: vs else v :: putX f y ns vs
  | _, _ => [y]
theorem putF_zip {f : Str} {y : V} : ∀ {ns : List Str} {vs : List V}, ns.length = vs.length → putF f y (ns.zip vs) = (putN f ns).zip (putX f y ns vs)
  | [], [], _ => rfl
  | n :: ns, v :: vs, h => by
    show (if n = f then (n, y) :: ns.zip vs else (n, v) :: putF f y (ns.zip vs)) = _
    unfold putN putX
    by_cases e : n = f
    · rw [if_pos e, if_pos e, if_pos e]; rfl
    · rw [if_neg e, if_neg e, if_neg e, putF_zip (by simpa using h)]; rfl
theorem putX_length {α : Type} {f : Str} {y : α} : ∀ {ns : List Str} {vs : List α}, ns.length = vs.length → (putN f ns).length = (putX f y ns vs).length
  | [], [], _ => rfl
  | n :: ns, v :: vs, h => by
    unfold putN putX
    by_cases e : n = f
    · rw [if_pos e, if_pos e]; exact h
    · rw [if_neg e, if_neg e, List.length_cons, List.length_cons, putX_length (by simpa using h)]
theorem putX_reps {K : PySem.W.Frag} {F : Hp} {f : Str} {v : V} {d : D} (r : Rep K F v d) : ∀ {ns : List Str} {vs : List V} {ds : List D}, Reps K F vs ds → Reps K F (putX f v ns vs) (putX f d ns ds)
  | [], [], [], .nil => .cons r .nil
  | [], _ :: _, _ :: _, .cons _ _ => .cons r .nil
  | _ :: _, [], [], .nil => .cons r .nil
  | n :: ns, _ :: _, _ :: _, .cons a q => by
    unfold putX
    by_cases e : n = f
    · rw [if_pos e, if_pos e]; exact .cons r q
    · rw [if_neg e, if_neg e]; exact .cons a (putX_reps r q)
/-- the field f -/
def fldX {α : Type} (f : Str) : List Str → List α → Option α
  | n :: ns, v :: vs => if f = n then some v else fldX f ns vs
  | _, _ => none
theorem fldX_rep {K : PySem.W.Frag} {F : Hp} {f : Str} {d : D} : ∀ {ns : List Str} {vs : List V} {ds : List D}, Reps K F vs ds → fldX f ns ds = some d → ∃ v, (ns.zip vs).lookup f = some v ∧ Rep K F v d
  | [], _, _, _, h => by simp [fldX] at h
  | _ :: _, _, _, .nil, h => by simp [fldX] at h
  | n :: ns, _ :: _, _ :: _, .cons (v := v) a q, h => by
    unfold fldX at h
    rw [List.zip_cons_cons]
    by_cases e : f = n
    · rw [if_pos e] at h
      cases h
      exact ⟨v, by simp [List.lookup, e], a⟩
    · rw [if_neg e] at h
      obtain ⟨w, e1, e2⟩ := fldX_rep q h
      exact ⟨w, by rw [List.lookup_cons, beq_eq_false_iff_ne.mpr e]; exact e1, e2⟩
/-- what is known of an own class: it is plain, and its fields are no class's -/
structure ClsF (K : PySem.W.Frag) (c : Str) (fs : List Str) : Prop where
  cl : Cls K (He.ga K c)
  no : ∀ f ∈ fs, NoAttr K (He.ga K c) f
/-- e.f of an instance -/
def fldD (cs : List Str) (f : Str) : D → FR D
  | .obj c ns ds => if c ∈ cs then match fldX f ns ds with
    | some d => .ok d
    | none => .stuck
    else .stuck
  | _ => .stuck
/-- self.f = e -/
def xFld (j : Nat) (c : Str) (f : Str) (e : M D) : M Fl := fun ρ => (e ρ).bind fun d ρ => match ρ.getD j .un with
  | .ins p c' ns ds => if c' = c ∧ ns.length < 1000 then .ok .nx (ρ.set j (.ins p c (putN f ns) (putX f d ns ds))) else .stuck
  | _ => .stuck
/-- C(..) -/
def mMake (c : Str) (mi : SV → List D → IR) (n : Nat) (dd : List D) (fs : M (List D)) : M D := fun ρ => (fs ρ).bind fun ds ρ => if ds.length + dd.length = n then match mi (.ins true c [] []) (ds ++ dd) with
    | .ok .non (.ins _ c' ns xs) => if c' = c then .ok (.obj c ns xs) ρ else .stuck
    | .exc x _ => .exc x ρ
    | _ => .stuck
  else .stuck
section
variable {X : Cx} {W : WX} {k n : Nat} {f : Addr} {fd : FuncData} {ps : List Str} {sp : Sp} {dvs : List V} {dV : List Value} {dd : List D} {x c g : Str} {cs : List Str} {p pos py : Pos} {e o : Expr} {es : List Expr} {fs : M (List D)} {fe : M D} {m : List D → FR D} {mi : SV → List D → IR}
theorem AE.fld {fe : M D} (he : AE X W e fe) (hc : ∀ c ∈ cs, ClsF X.K c [g]) (hb : attributeBase e g X.env (eval e X.env) = eval e X.env) : AE X W (.Attribute e g pos) (m1 (fldD cs g) fe) := by
  obtain ⟨t, p, q⟩ := he
  refine ⟨_, pe_fld p hb, fun G σ H F ρ Q S hg => q G σ H F ρ _ S (hg.bind fun d ρ1 H1 F1 S1 s1 g1 v r1 => ?_)⟩
  cases r1 with
  | obj h1 h2 h3 h4 =>
    simp only [fldD] at g1
    split at g1
    · rename_i hz
      split at g1
      · rename_i w hw
        obtain ⟨u, e1, e2⟩ := fldX_rep h4 hw
        exact ⟨_, _, _, _, u, rfl, S1.sub _ _ h1, (hc _ hz).cl, (hc _ hz).no _ (by simp), by rw [h2]; exact e1, g1 H1 F1 S1 Sm.refl u e2⟩
      · exact g1.elim
    · exact g1.elim
  | _ => exact g1.elim
theorem AS.fld {j : Nat} {pos' : Pos} (hv : AE X W e fe) (h0 : PE X (.Name x py) (tVar j)) (hc : ClsF X.K c [g]) (hs : swapsWith e (some (.Attribute (.Name x py) g pos')) pos.line X.env = pure false := by rfl) :
    AS X W (.Assign [.Attribute (.Name x py) g pos'] e pos) (xFld j c g fe) := by
  obtain ⟨t, p, q⟩ := hv
  refine ⟨_, ps_fld h0 p hs, fun G σ H F ρ Dn S hg => q G σ H F ρ _ S (GoodS.bind hg fun d ρ1 H1 F1 S1 s1 g1 v r1 => ?_)⟩
  have qs := S1.at_ j
  cases hs : ρ1.getD j .un with
  | ins p c' ns ds =>
    rw [hs] at g1 qs
    have g1 : GoodS X.K G W F1 (if c' = c ∧ ns.length < 1000 then R.ok .nx (ρ1.set j (.ins p c (putN g ns) (putX g d ns ds))) else .stuck) Dn := g1
    split at g1
    · rename_i hz
      obtain ⟨rfl, hl⟩ := hz
      obtain ⟨a, dx, vs, e1, e2, e3, e4, r⟩ := qs
      have hz2 : (ns.zip vs).length < 1000 := by rw [List.length_zip]; omega
      refine ⟨_, e1, a, _, dx, _, rfl, e2, hc.cl, hc.no _ (by simp), hz2, ?_⟩
      rw [putF_zip e3]
      exact g1 σ _ F1 (S1.change (i := j) (a := a) (sv := .ins p c' (putN g ns) (putX g d ns ds)) (by rw [hs]; rfl) e1 (S1.own_upd (by rw [hs]; rfl) e1) (fun b o h => by
        rw [upd_ne (fun z => by subst z; rw [e4] at h; cases h)]; exact S1.sub b o h) Sm.refl (fun b o h => .inl h) S1.ft ⟨a, dx, putX g v ns vs, rfl, upd_same, putX_length e3, e4, putX_reps r1 r⟩ rfl (by rw [hs]; rfl)) Sm.refl
    · exact g1.elim
  | _ => rw [hs] at g1; exact g1.elim
def tMakeW (W : WX) (C : Addr) (sp : Sp) (dvs : List V) (t : TA) : TE := fun σ H Q => t σ H fun vs H1 => ∀ x dx, H1 x = none → H1 dx = none → dx ≠ x →
  sp (.ref x :: (vs ++ dvs)) (upd (upd H1 dx (.own x)) x (.ins C dx [])) (fun v H2 => v = .non ∧ Q (.ref x) H2) (WE W σ)
theorem run_makeW {C : Addr} {pins : List (Addr × Obj)} {σ : St} {H : Hp} {s : Shared} {Q : VK} {us : List Value} {vs : List V} (M : L2.Mk X.K C f) (Fn : FnG X.prog X.w X.K X.mg X.base k f fd ps sp) (hr : RoomG (k + 1) X.A) (hb : Binds X.K fd ps dV) (hd : Vals dvs dV)
    (tk : L2N.Takes X W) (I : Inv X pins σ H s) (r : Vals vs us)
    (h : ∀ x dx, H x = none → H dx = none → dx ≠ x → sp (.ref x :: (vs ++ dvs)) (upd (upd H dx (.own x)) x (.ins C dx [])) (fun v H2 => v = .non ∧ Q (.ref x) H2) (WE W σ)) :
    wpAny (model X.prog X.w) X.A (call (.ref C) us) (EP X pins σ Q) X.xe s := by
  have hq := h (s.heap.objs.size + 1) s.heap.objs.size (I.hok.fresh (Nat.le_succ _)) (I.hok.fresh (Nat.le_refl _)) (Nat.ne_of_lt (Nat.lt_succ_self _))
  have I2 := Inv.made (C := C) I
  have r2 : Vals (V.ref (s.heap.objs.size + 1) :: (vs ++ dvs)) (Value.ref (s.heap.objs.size + 1) :: (us ++ dV)) := .cons rfl (r.append hd)
  have hl : (Value.ref (s.heap.objs.size + 1) :: us ++ dV).length = ps.length := by
    have e := r2.length
    rw [Fn.len _ _ _ _ hq] at e
    exact e.symm
  refine wpAny_call (make_map (f := f) I.kIn M.makes M.init (beq_iff_eq.mp M.fn) (codeAny_mono (Fn.run _ X.stack _ _ ⟨Value.ref (s.heap.objs.size + 1) :: us, []⟩ (Value.ref (s.heap.objs.size + 1) :: (us ++ dV)) _ _ _ (hr.make C us [])
    (I2.env0.make C us []) (hb _ (Value.ref (s.heap.objs.size + 1) :: us) I2.kIn hl) r2 hq) fun r s' hq' => ?_))
  cases r with
  | error e => exact L2N.passAt tk σ pins _ _ e s' I2 hq'
  | ok fl =>
    cases fl with
    | ret u =>
      obtain ⟨v, H', I3, rv, ev, q3⟩ := I2.after hq'
      subst ev
      exact ⟨rv, ⟨V.ref (s.heap.objs.size + 1), H', I3, rfl, q3⟩⟩
    | _ => exact hq'.elim
theorem pe_makeW {C : Addr} {ta : TA} (M : L2.Mk X.K C f) (Fn : FnG X.prog X.w X.K X.mg X.base k f fd ps sp) (hr : RoomG (k + 1) X.A) (hg : Gl X x) (hm : X.mg x = some (.ref C)) (hb : Binds X.K fd ps dV) (hd : Vals dvs dV) (tk : L2N.Takes X W)
    (ha : PA X (e :: es) ta) (hdb : (x == ("__debug__" : Str)) = false := by decide) (he : starEach (e :: es) X.env = (false, eval e X.env) :: starEach es X.env := by rfl) (hpl : (backTo pos (starEach es X.env)).any (·.1) = false := by rfl) :
    PE X (.Call (.Name x p) (e :: es) [] pos) (tMakeW W C sp dvs ta) := by
  refine ⟨fun pins s σ H Q I h => ?_⟩
  refine wpAny_Call_Name_kw (ld_glob I hg hm ?_ hdb)
  refine PySem.W.callWith_K (h₀ := X.base) I.ok.mod.kin M.kp (thn (ha.run pos pins s σ H _ I h) fun us s1 ⟨vs, H1, I1, r, q⟩ => ⟨I1.kIn, ?_⟩) he hpl
  exact run_makeW M Fn hr hb hd tk I1 r q
theorem AE.make (M : L2.Mk X.K (He.ga X.K c) f) (Fn : FnG X.prog X.w X.K X.mg X.base k f fd ps (ISp X.K n mi)) (hr : RoomG (k + 1) X.A) (hg : Gl X x) (hm : X.mg x = some (.ref (He.ga X.K c))) (hb : Binds X.K fd ps dV) (hd : Vals dvs dV) (hdd : ∀ K H, Reps K H dvs dd) (tk : L2N.Takes X W)
    (ha : AA X W (e :: es) fs) (hdb : (x == ("__debug__" : Str)) = false := by decide) (he : starEach (e :: es) X.env = (false, eval e X.env) :: starEach es X.env := by rfl) (hpl : (backTo pos (starEach es X.env)).any (·.1) = false := by rfl) :
    AE X W (.Call (.Name x p) (e :: es) [] pos) (mMake c mi n dd fs) := by
  obtain ⟨t, pa, qa⟩ := ha
  refine ⟨_, pe_makeW M Fn hr hg hm hb hd tk pa hdb he hpl, fun G σ H F ρ Q S hgd => qa G σ H F ρ _ S (hgd.bind fun ds ρ1 H1 F1 S1 s1 g1 vs r1 => fun x dx nx ndx ne => ?_)⟩
  have g1 : Good X.K G W σ F1 (if ds.length + dd.length = n then match mi (.ins true c [] []) (ds ++ dd) with
    | .ok .non (.ins _ c' ns xs) => if c' = c then .ok (.obj c ns xs) ρ1 else .stuck
    | .exc x _ => .exc x ρ1
    | _ => .stuck
  else .stuck) (PD X.K Q) := g1
  split at g1
  · rename_i hz
    have fx := S1.sub.none nx
    have sub1 : Sm H1 (upd (upd H1 dx (.own x)) x (.ins (He.ga X.K c) dx [])) := fun b o h => by
      rw [upd_ne (fun z => by subst z; rw [nx] at h; cases h), upd_ne (fun z => by subst z; rw [ndx] at h; cases h)]; exact h
    have key : ∀ {sv : SV} {H' F' : Hp}, AftIo X.K x sv (upd (upd H1 dx (.own x)) x (.ins (He.ga X.K c) dx [])) F1 H' F' → SmT X.K H1 H' ∧ (∀ b o, F' b = some o → F1 b = some o ∨ Nn H1 b) := fun A =>
      ⟨⟨fun b o h n => A.h.k b o (fun z => by subst z; rw [nx] at h; cases h) (sub1 b o h) n, fun x => A.h.t (x.ext sub1)⟩, fun b o h => (A.new b o h).imp id fun z => fun o e => z o (sub1 b o e)⟩
    refine ⟨by rw [List.length_cons, List.length_append, r1.length, (hdd X.K F1).length]; omega, F1, x, vs ++ dvs, .ins true c [] [], ds ++ dd, rfl, ⟨S1.sub.tr sub1, S1.ft, S1.tb.ext sub1⟩, ⟨x, dx, [], rfl, by rw [upd_same]; rfl, rfl, fx, .nil⟩, rfl, r1.append (hdd _ _), ?_⟩
    cases em : mi (.ins true c [] []) (ds ++ dd) with
    | ok d sv =>
      rw [em] at g1
      cases d with
      | non =>
        cases sv with
        | ins pp c' ns xs =>
          have g1 : Good X.K G W σ F1 (if c' = c then R.ok (.obj c ns xs) ρ1 else .stuck) (PD X.K Q) := g1
          split at g1
          · rename_i hc
            subst hc
            intro v H' F' A rv
            cases rv
            refine ⟨rfl, ?_⟩
            obtain ⟨a, dx', ws, e1, e2, e3, e4, rr⟩ := A.at_
            cases e1
            obtain ⟨k1, k2⟩ := key A
            have sF : Sm F' (upd F' x (.ins (He.ga X.K c') dx' (ns.zip ws))) := Sm.updN e4
            refine g1 H' (upd F' x (.ins (He.ga X.K c') dx' (ns.zip ws))) (S1.grow k1 (fun b o h => ?_) (A.f.tr sF) (fun b o h => ?_) ((A.ft S1.ft).upd rfl)) (A.f.tr sF) _ (.obj upd_same rfl e3 (rr.mono sF))
            · by_cases z : b = x
              · subst z; rw [upd_same] at h; cases h; exact e2
              · rw [upd_ne z] at h; exact A.sub b o h
            · by_cases z : b = x
              · subst z; exact .inr (.of nx)
              · rw [upd_ne z] at h; exact k2 b o h
          · exact g1.elim
        | _ => exact g1.elim
      | _ => cases sv <;> exact g1.elim
    | exc xx sv =>
      rw [em] at g1
      intro d H' F' A rv
      obtain ⟨k1, k2⟩ := key A
      exact g1 d H' F' (S1.grow k1 A.sub A.f k2 (A.ft S1.ft)) A.f rv
    | stuck => rw [em] at g1; exact g1.elim
  · exact g1.elim
def E0F : XK := fun _ _ _ => False
theorem goodF0 {G : Ent} {σ : St} {H F : Hp} {ρ : Ro} {r : FR D} {T : VK} (S : Stt X.K G σ H F ρ) (hr : ∀ d, r = .ok d → ∀ v H' F', Stt X.K G σ H' F' ρ → Sm F F' → Rep X.K F' v d → T v H') (h : ∃ d, r = .ok d) : GoodF X.K H F r T E0F := by
  obtain ⟨d, e⟩ := h
  rw [e]
  exact fun v H' F' A rv => hr d e v H' F' (S.aft A) A.f rv
end
end Mr
namespace Mr
open PySem PySem.Spec PyProof.Rows L2
variable [Lam] [Pins]

mutual
/-- no list, no instance is in it -/
def noL : D → Bool
  | .non => true
  | .bl _ => true
  | .int _ => true
  | .str _ => true
  | .tup xs => noLs xs
  | .lst _ => false
  | .frz _ => false
  | .obj _ _ ds => noLs ds
  | .dct _ ds => noLs ds
  | .opq _ => true
  | .any => true
def noLs : List D → Bool
  | [] => true
  | x :: xs => noL x && noLs xs
end
theorem NmOk.without {K : PySem.W.Frag} {F F' : Hp} {a b : Addr} {vs : List V} {ds : List D} (hF : F a = some (.lst vs)) (s : ∀ b o, b ≠ a → F b = some o → F' b = some o) (h : NmOk K F b ds) : NmOk K F' b ds := fun z => by
  rcases h z with ⟨o, u, e, d⟩ | h
  · exact .inl ⟨o, u, s _ _ (fun z => by subst z; rw [hF] at e; cases e) e, d⟩
  · exact .inr h
mutual
theorem Rep.without {K : PySem.W.Frag} {F F' : Hp} {a : Addr} {vs : List V} (hF : F a = some (.lst vs)) (s : ∀ b o, b ≠ a → F b = some o → F' b = some o) : ∀ {v : V} {d : D}, Rep K F v d → noL d = true → Rep K F' v d
  | _, _, .non, _ => .non
  | _, _, .bl b, _ => .bl b
  | _, _, .int i, _ => .int i
  | _, _, .str x, _ => .str x
  | _, .tup ds, .tup (a := b) h r n, e => .tup (h.elim (fun h => .inl (h.elim (fun h => .inl (s _ _ (fun z => by subst z; rw [hF] at h; cases h) h)) fun ⟨o, h⟩ => .inr ⟨o, s _ _ (fun z => by subst z; rw [hF] at h; cases h) h⟩)) .inr) (Reps.without hF s r (by rw [noL] at e; exact e)) (n.without hF s)
  | _, _, .lst _ _, e => by rw [noL] at e; cases e
  | _, _, .frz _ _, e => by rw [noL] at e; cases e
  | _, _, .obj h e1 l r, e => .obj (s _ _ (fun z => by subst z; rw [hF] at h; cases h) h) e1 l (Reps.without hF s r (by rw [noL] at e; exact e))
  | _, _, .dct h l r, e => .dct (s _ _ (fun z => by subst z; rw [hF] at h; cases h) h) l (Reps.without hF s r (by rw [noL] at e; exact e))
  | _, _, .opq v, _ => .opq v
  | _, _, .any v h, _ => .any v h
theorem Reps.without {K : PySem.W.Frag} {F F' : Hp} {a : Addr} {vs : List V} (hF : F a = some (.lst vs)) (s : ∀ b o, b ≠ a → F b = some o → F' b = some o) : ∀ {vs : List V} {ds : List D}, Reps K F vs ds → noLs ds = true → Reps K F' vs ds
  | _, _, .nil, _ => .nil
  | _, _, .cons h r, e => by
    rw [noLs, Bool.and_eq_true] at e
    exact .cons (Rep.without hF s h e.1) (Reps.without hF s r e.2)
end
/-- a slot, seen ahead and behind -/
def okI : SV → SV → Prop
  | _, .un => True
  | .val d, .val e => d = e
  | _, .val _ => False
  | _, .own _ xs => noLs xs = true
  | _, .ins _ _ _ ds => noLs ds = true
  | _, .dic _ _ ds => noLs ds = true
  | _, .nst _ ks => noLs ks = true
  | _, .pin => True
def pkR (j : Nat) : Nat → Ro → Ro → Prop
  | i, a :: as, b :: bs => (i = j ∨ okI a b) ∧ pkR j (i + 1) as bs
  | _, [], [] => True
  | _, _, _ => False
theorem pkR_at {j : Nat} : ∀ {as bs : Ro} {i : Nat}, pkR j i as bs → as.length = bs.length ∧ ∀ k, i + k ≠ j → okI (as.getD k .un) (bs.getD k .un)
  | [], [], i, _ => ⟨rfl, fun k _ => by simp [okI]⟩
  | a :: as, b :: bs, i, h => by
    obtain ⟨h1, h2⟩ := h
    obtain ⟨l, q⟩ := pkR_at h2
    refine ⟨by simp [l], fun k ne => ?_⟩
    cases k with
    | zero => exact h1.elim (fun e => absurd e ne) id
    | succ k => exact q k (by omega)
  | [], _ :: _, _, h => h.elim
  | _ :: _, [], _, h => h.elim
open Classical in
noncomputable def mPeek (j : Nat) (f : M D) : M D := fun ρ => match ρ.getD j .un with
  | .own false xs => match f (ρ.set j (.val (.lst xs))) with
    | .ok d ρ' => if noL d = true ∧ ρ'.getD j .un = .val (.lst xs) ∧ pkR j 0 ρ ρ' then .ok d (ρ'.set j (.own false xs)) else .stuck
    | _ => .stuck
  | _ => f ρ
section
variable {X : Cx} {W : WX} {K : PySem.W.Frag} {G : Ent} {σ : St} {H F H' F' : Hp} {ρ ρ' : Ro} {e : Expr} {f : M D} {j : Nat} {xs : List D} {a : Addr} {vs : List V}
/-- it is one's own again -/
theorem Stt.unfreeze (S : Stt K G σ H F ρ) (hi : ρ.getD j .un = .own false xs) (e1 : σ[j]? = some (some (V.ref a))) (ha : H a = some (.lst vs)) (fa : F a = none) (r : Reps K F vs xs) (sF : Sm (upd F a (.lst vs)) F')
    (S' : Stt K G σ H' F' ρ') (hj : ρ'.getD j .un = .val (.lst xs)) (hp : pkR j 0 ρ ρ') :
    Stt K G σ H' (fun b => if b = a then none else F' b) (ρ'.set j (.own false xs)) ∧ Sm F (fun b => if b = a then none else F' b) := by
  have fa' : F' a = some (.lst vs) := sF _ _ upd_same
  have s0 : Sm F (fun b => if b = a then none else F' b) := fun b o h => by
    have ne : b ≠ a := fun z => by subst z; rw [fa] at h; cases h
    show (if b = a then none else F' b) = _
    rw [if_neg ne]; exact sF _ _ (by rw [upd_ne ne]; exact h)
  have s1 : ∀ b o, b ≠ a → F' b = some o → (fun b => if b = a then none else F' b) b = some o := fun b o ne h => by
    show (if b = a then none else F' b) = _
    rw [if_neg ne]; exact h
  obtain ⟨len, q⟩ := pkR_at hp
  have jl : j < ρ'.length := by
    rw [S'.len]
    exact (List.getElem?_eq_some_iff.mp e1).1
  have own : (ρ.getD j .un).isOwn = true := by rw [hi]; rfl
  have noio : ∀ b, (j, b) ∉ G.io := fun b z => by
    have := (S.io j b z).2
    rw [hi] at this; cases this
  have h0 : Nn G.H0 a := (S.fresh j a own e1).elim id fun z => absurd z (noio a)
  have notown : ∀ i b, (ρ'.getD i .un).isOwn = true → σ[i]? = some (some (V.ref b)) → b ≠ a := fun i b o h z => by
    obtain ⟨b', u, f1, f2, f3, _⟩ := (S'.at_ i).there o
    rw [h] at f1; cases f1
    subst z
    rw [fa'] at f3; cases f3
  refine ⟨⟨fun b o h => ?_, fun b o h => ?_, S'.tb, S'.same, fun b o h => ?_, fun b o h => ?_, by simp [S'.len], fun i => ?_, fun i k b h1 h2 h3 h4 => ?_, fun i b h1 h2 => ?_, fun i b hb => ?_, fun p hp => ?_, S'.xx, S'.xtd, fun i v hv => ?_, S.pf.tr s0⟩, s0⟩
  · by_cases z : b = a
    · subst z; simp at h
    · simp [z] at h; exact S'.sub b o h
  · by_cases z : b = a
    · subst z; simp at h
    · simp [z] at h; exact S'.ft b o h
  · exact s0 b o (S.ext b o h)
  · by_cases z : b = a
    · subst z; simp at h
    · simp [z] at h; exact S'.new b o h
  · rw [getD_set]
    by_cases c : j = i ∧ i < ρ'.length
    · rw [if_pos c, ← c.1]
      exact ⟨a, vs, e1, S'.sub _ _ fa', by simp, r.mono s0⟩
    · rw [if_neg c]
      have ne : i ≠ j := fun z => c ⟨z.symm, z ▸ jl⟩
      have ok := q i (by omega)
      have q0 := S.at_ i
      have q1 := S'.at_ i
      have no := notown i
      cases hs : ρ'.getD i .un with
      | un => trivial
      | val d =>
        rw [hs] at ok
        cases hs0 : ρ.getD i .un with
        | val d0 =>
          rw [hs0] at ok q0
          have ok : d0 = d := ok
          subst ok
          obtain ⟨v, g1, g2⟩ := q0
          exact ⟨v, g1, g2.mono s0⟩
        | _ => rw [hs0] at ok; exact ok.elim
      | own p ys =>
        rw [hs] at ok q1 no
        have ok : noLs ys = true := by cases hs0 : ρ.getD i .un <;> rw [hs0] at ok <;> exact ok
        obtain ⟨b, ws, g1, g2, g3, g4⟩ := q1
        exact ⟨b, ws, g1, g2, by show (if b = a then none else F' b) = none; rw [if_neg (no b rfl g1)]; exact g3, g4.without fa' s1 ok⟩
      | ins p C ns ds =>
        rw [hs] at ok q1 no
        have ok : noLs ds = true := by cases hs0 : ρ.getD i .un <;> rw [hs0] at ok <;> exact ok
        obtain ⟨b, dx, ws, g1, g2, g0, g3, g4⟩ := q1
        exact ⟨b, dx, ws, g1, g2, g0, by show (if b = a then none else F' b) = none; rw [if_neg (no b rfl g1)]; exact g3, g4.without fa' s1 ok⟩
      | dic p ks ds =>
        rw [hs] at ok q1 no
        have ok : noLs ds = true := by cases hs0 : ρ.getD i .un <;> rw [hs0] at ok <;> exact ok
        obtain ⟨b, ws, g1, g2, g0, g3, g4⟩ := q1
        exact ⟨b, ws, g1, g2, g0, by show (if b = a then none else F' b) = none; rw [if_neg (no b rfl g1)]; exact g3, g4.without fa' s1 ok⟩
      | nst p ds =>
        rw [hs] at ok q1 no
        have ok : noLs ds = true := by cases hs0 : ρ.getD i .un <;> rw [hs0] at ok <;> exact ok
        obtain ⟨b, ws, g1, ⟨o2, g2, gz⟩, g0, g3, g4⟩ := q1
        exact ⟨b, ws, g1, ⟨o2, g2, gz⟩, g0, by show (if b = a then none else F' b) = none; rw [if_neg (no b rfl g1)]; exact g3, g4.without fa' s1 ok⟩
      | pin => trivial
  · rw [getD_set] at h1 h2
    by_cases c : j = i ∧ i < ρ'.length
    · by_cases c' : j = k ∧ k < ρ'.length
      · rw [← c.1, ← c'.1]
      · rw [if_neg c'] at h2
        rw [← c.1, e1] at h3
        cases h3
        exact absurd rfl (notown k a h2 h4)
    · rw [if_neg c] at h1
      by_cases c' : j = k ∧ k < ρ'.length
      · rw [← c'.1, e1] at h4
        cases h4
        exact absurd rfl (notown i a h1 h3)
      · rw [if_neg c'] at h2
        exact S'.dis i k b h1 h2 h3 h4
  · rw [getD_set] at h1
    by_cases c : j = i ∧ i < ρ'.length
    · rw [← c.1, e1] at h2
      cases h2
      exact .inl h0
    · rw [if_neg c] at h1; exact S'.fresh i b h1 h2
  · have ne : j ≠ i := fun z => noio b (z ▸ hb)
    obtain ⟨f1, f2⟩ := S'.io i b hb
    rw [getD_set, if_neg fun c => ne c.1]
    exact ⟨f1, f2⟩
  · obtain ⟨f1, f2, f3, f4⟩ := S'.xt p hp
    have pa : p.1 ≠ a := fun z => by rw [z, fa'] at f2; cases f2
    refine ⟨f1, by show (if p.1 = a then none else F' p.1) = none; rw [if_neg pa]; exact f2, f3, fun i h1 h2 => ?_⟩
    rw [getD_set] at h1
    by_cases c : j = i ∧ i < ρ'.length
    · rw [← c.1, e1] at h2
      cases h2
      exact pa rfl
    · rw [if_neg c] at h1; exact f4 i h1 h2
  · obtain ⟨x1, x2⟩ := S'.pin i v hv
    have ne : j ≠ i := fun z => by subst z; rw [hj] at x2; cases x2
    rw [getD_set, if_neg fun c => ne c.1]
    exact ⟨x1, x2⟩
open Classical in
theorem AE.peek (j : Nat) (h : AE X W e f) : AE X W e (mPeek j f) := by
  obtain ⟨t, p, q⟩ := h
  refine ⟨t, p, fun G σ H F ρ Q S hg => ?_⟩
  unfold mPeek at hg
  split at hg
  · rename_i xs hi
    obtain ⟨a, vs, e1, ha, fa, r, S1, sF, _⟩ := S.freezeX hi
    refine q G σ H _ _ Q S1 ?_
    cases ef : f (ρ.set j (.val (.lst xs))) with
    | ok d ρ' =>
      rw [ef] at hg
      have hg : Good X.K G W σ F (if noL d = true ∧ ρ'.getD j .un = .val (.lst xs) ∧ pkR j 0 ρ ρ' then R.ok d (ρ'.set j (.own false xs)) else .stuck) (PD X.K Q) := hg
      split at hg
      · rename_i hz
        intro H' F' S' s' v rv
        obtain ⟨S2, s2⟩ := S.unfreeze hi e1 ha fa r s' S' hz.2.1 hz.2.2
        exact hg H' _ S2 s2 v (rv.without (s' _ _ upd_same) (fun b o ne h => by show (if b = a then none else F' b) = _; rw [if_neg ne]; exact h) hz.1)
      · exact hg.elim
    | exc x ρ' => rw [ef] at hg; exact hg.elim
    | stuck => rw [ef] at hg; exact hg.elim
  · exact q G σ H F ρ Q S hg
end
def listN : List D → FR (List D)
  | [.lst xs] => .ok xs
  | [.tup xs] => .ok xs
  | [.frz xs] => .ok xs
  | _ => .stuck
/-- list(e) -/
def mListN (fs : M (List D)) : M (List D) := fun ρ => (fs ρ).bind fun ds ρ => (listN ds).lift ρ
def addN : D → D → FR (List D)
  | .lst xs, .lst ys => if xs.length + ys.length ≤ sizeLine then .ok (xs ++ ys) else .stuck
  | _, _ => .stuck
def mulN : D → D → FR (List D)
  | .lst xs, .int k => if I63 k ∧ xs.length * k.toNat ≤ sizeLine then .ok (List.replicate k.toNat xs).flatten else .stuck
  | _, _ => .stuck
def mBinN (g : D → D → FR (List D)) (a b : M D) : M (List D) := fun ρ => (a ρ).bind fun x ρ => (b ρ).bind fun y ρ => (g x y).lift ρ
/-- x.pop(e) -/
def mPopAt (j : Nat) (fe : M D) : M D := fun ρ => match ρ.getD j .un with
  | .own _ _ => (fe ρ).bind fun v ρ => match ρ.getD j .un, v with
    | .own p xs, .int i => match seqIndex? i xs.length with
      | some k => if I63 i then match xs[k]? with
        | some d => .ok d (ρ.set j (.own p (xs.eraseIdx k)))
        | none => .stuck
        else .stuck
      | none => .stuck
    | _, _ => .stuck
  | _ => .stuck
/-- a list extended by a tuple -/
theorem list_extend_tupleW (l : Addr) (items : Array Value) (n : Nat) (b : Addr) (items2 : Array Value) (n2 : Nat) (dd : Option Addr) (sl : Array (Option Value)) (hs0 : ¬(!items.isEmpty && Builtin.List.listTooLong (items.size + items2.size)) = true) (hs1 : items.size ≤ sizeLine) (hs2 : items.size + items2.size ≤ sizeLine + 1) :
    Meets (Builtin.«list.extend» ⟨[.ref l, .ref b], []⟩) (fun _ R s => s.heap.get? l = some { cls := .type "list", dict := none, data := .seq items n, slots := #[] } ∧ s.heap.get? b = some { cls := .type "tuple", dict := dd, data := .seq items2 n2, slots := sl } ∧ R (.ok (.ret Value.none)) { s with heap := s.heap.update l (Obj.mapSeq fun x => x ++ items2), toks := s.toks }) :=
  .of_wp fun prog w A R s h => by
    obtain ⟨hp, g, d, tk, os⟩ := s
    obtain ⟨hl, hb, h⟩ := h
    have f1 := AutoSeq1.idx_int
    have f2 := AutoSeq1.sub_tuple_tuple
    have f3 := AutoSeq1.sub_list_list
    have f4 := AutoSeq1.sub_tuple_list
    have f5 := AutoSeq1.sub_list_tuple
    have hz' : (items ++ items2).size ≤ sizeLine + 1 := by rw [Array.size_append]; exact hs2
    wp_walk using (wpAny_updateSeq hl rfl (hz := hs1) (_hz' := hz')), wpAny_loadPart' hl, wpAny_loadPart' hb
    exact ⟨_, rfl, h⟩
def rExtendT (K : PySem.W.Frag) : V → List V → Hp → VK → Prop := fun x vs H Q => ∃ l b xs zs, x = .ref l ∧ vs = [.ref b] ∧ H l = some (.lst xs) ∧ SqT K H b zs ∧ xs.length + zs.length ≤ sizeLine ∧ Q .non (upd H l (.lst (xs ++ zs)))
theorem mt_extendT {X : Cx} : MtM X "list.extend" (rExtendT X.K) := by
  intro pins s σ H x vs v us Q I rx rv h
  obtain ⟨l, b, xs, zs, rfl, rfl, hH, hB, hz, q⟩ := h
  cases rx
  obtain ⟨u, rfl, ru⟩ := rv.one
  cases ru
  obtain ⟨z, its, n, r, hl, e⟩ := I.lstM hH
  obtain ⟨its2, r2, ⟨⟨cls, dd, data, sl⟩, ho, hc, n2, hd⟩, hs⟩ := I.tuple hB
  simp only at hc hd
  subst hc hd
  have l2 := r2.length
  have hsz : its.toArray.size + its2.toArray.size ≤ sizeLine := by rw [List.size_toArray, List.size_toArray]; omega
  have hlong : ¬ (!its.toArray.isEmpty && Builtin.List.listTooLong (its.toArray.size + its2.toArray.size)) = true := by
    rw [notLongL hsz, Bool.and_false]
    exact Bool.false_ne_true
  refine call_meets PySem.F.slot_list_extend ⟨_, e, rfl⟩ PySem.F.entry_list_extend (PySem.F.args_list_extend_2 _ _)
    (list_extend_tupleW l its.toArray n b its2.toArray n2 dd sl hlong (by rw [List.size_toArray]; omega) (by omega)) ⟨e, ho, ?_⟩
  refine ⟨.non, _, I.lset (its' := its ++ its2) hH e (by simp) (r.append r2) ?_, rfl, q⟩
  rw [List.length_append]
  omega
theorem MtM.or {X : Cx} {id : String} {r r' : V → List V → Hp → VK → Prop} (h : MtM X id r) (h' : MtM X id r') : MtM X id (fun x xs H Q => r x xs H Q ∨ r' x xs H Q) := by
  intro pins s σ H x xs v us Q I rx rs q
  rcases q with q | q
  · exact h pins s σ H x xs v us Q I rx rs q
  · exact h' pins s σ H x xs v us Q I rx rs q
/-- x.extend(e) -/
def mExt (j : Nat) (fe : M D) : M D := fun ρ => match ρ.getD j .un with
  | .own _ _ => (fe ρ).bind fun v ρ => match ρ.getD j .un, v with
    | .own p xs, .lst ys => if xs.length + ys.length ≤ sizeLine then .ok .non (ρ.set j (.own p (xs ++ ys))) else .stuck
    | .own p xs, .tup ys => if xs.length + ys.length ≤ sizeLine then .ok .non (ρ.set j (.own p (xs ++ ys))) else .stuck
    | _, _ => .stuck
  | _ => .stuck
theorem reps_erase {K : PySem.W.Frag} {F : Hp} : ∀ {vs : List V} {ds : List D} (k : Nat), Reps K F vs ds → Reps K F (vs.eraseIdx k) (ds.eraseIdx k)
  | _, _, _, .nil => .nil
  | _, _, 0, .cons _ r => r
  | _, _, k + 1, .cons h r => .cons h (reps_erase k r)
theorem reps_get {K : PySem.W.Frag} {F : Hp} {vs : List V} {ds : List D} {k : Nat} {d : D} (r : Reps K F vs ds) (h : ds[k]? = some d) : ∃ v, vs[k]? = some v ∧ Rep K F v d := r.get k h
section
variable {X : Cx} {W : WX} {a b e : Expr} {es : List Expr} {fa fb fe : M D} {fs : M (List D)} {pos py : Pos} {y : Str}
theorem newOwn {G : Ent} {σ : St} {H F : Hp} {ρ : Ro} {vs : List V} {ds : List D} {Q : VK} {p : Addr} (S : Stt X.K G σ H F ρ) (r : Reps X.K F vs ds) (g : Good X.K G W σ F (.ok ds ρ) (fun ds ρ' H' F' => ∀ a vs H2, Stt X.K ⟨G.H0, G.F0, G.io, (a, .lst vs) :: G.xt⟩ σ H2 F' ρ' → Reps X.K F' vs ds → Q (.ref a) H2)) (hp : H p = none) :
    Q (.ref p) (upd H p (.lst vs)) := g H F S Sm.refl p vs _ (S.xtNew hp) r
theorem AN.list {px : Pos} (hg : Gl X "list") (hm : X.mg "list" = none) (ha : AA X W (a :: es) fs) (he : starEach (a :: es) X.env = (false, eval a X.env) :: starEach es X.env := by rfl) (hpl : (backTo pos (starEach es X.env)).any (·.1) = false := by rfl) :
    AN X W (.Call (.Name "list" px) (a :: es) [] pos) (mListN fs) := by
  obtain ⟨t, pa, qa⟩ := ha
  refine ⟨_, pe_callTy (T := "list") call_list_of hg hm (by decide +kernel) pa (by decide) (by decide) he hpl, fun G σ H F ρ Q S hgd => qa G σ H F ρ _ S (hgd.bind fun ds ρ1 H1 F1 S1 s1 g1 vs r => ?_)⟩
  unfold listN at g1
  split at g1
  · obtain ⟨v, rfl, rv⟩ := reps1 r
    cases rv with
    | lst hx rx => exact ⟨_, _, rfl, .inl (.of (S1.sub _ _ hx)), fun l hl => newOwn S1 rx g1 hl⟩
  · obtain ⟨v, rfl, rv⟩ := reps1 r
    cases rv with
    | tup hx rx => exact ⟨_, _, rfl, .inr (SqTm S1.sub hx), fun l hl => newOwn S1 rx g1 hl⟩
  · obtain ⟨v, rfl, rv⟩ := reps1 r
    cases rv with
    | frz hx rx => exact ⟨_, _, rfl, .inl (SqLm S1.sub hx), fun l hl => newOwn S1 rx g1 hl⟩
  · exact g1.elim
theorem AN.add (ha : AE X W a fa) (hb : AE X W b fb) : AN X W (.BinOp a .Add b pos) (mBinN addN fa fb) := by
  obtain ⟨ta, pa, qa⟩ := ha
  obtain ⟨tb, pb, qb⟩ := hb
  refine ⟨_, pe_op op_cat pa pb, fun G σ H F ρ Q S hg => qa G σ H F ρ _ S (hg.bind fun dx ρ1 H1 F1 S1 s1 g1 v r1 => qb G σ H1 F1 ρ1 _ S1 (g1.bind fun dy ρ2 H2 F2 S2 s2 g2 u r2 => ?_))⟩
  unfold addN at g2
  split at g2
  · rename_i xs ys
    split at g2
    · rename_i hz
      have r1 := r1.mono s2
      cases r1 with
      | lst hx rx => cases r2 with
        | lst hy ry => exact ⟨_, _, _, _, rfl, rfl, S2.sub _ _ hx, S2.sub _ _ hy, by rw [rx.length, ry.length]; exact hz, fun p hp => newOwn S2 (rx.append ry) g2 hp⟩
    · exact g2.elim
  · exact g2.elim
theorem AN.mul (ha : AE X W a fa) (hb : AE X W b fb) : AN X W (.BinOp a .Mult b pos) (mBinN mulN fa fb) := by
  obtain ⟨ta, pa, qa⟩ := ha
  obtain ⟨tb, pb, qb⟩ := hb
  refine ⟨_, pe_op op_rep pa pb, fun G σ H F ρ Q S hg => qa G σ H F ρ _ S (hg.bind fun dx ρ1 H1 F1 S1 s1 g1 v r1 => qb G σ H1 F1 ρ1 _ S1 (g1.bind fun dy ρ2 H2 F2 S2 s2 g2 u r2 => ?_))⟩
  unfold mulN at g2
  split at g2
  · rename_i xs k
    split at g2
    · rename_i hz
      have r1 := r1.mono s2
      cases r1 with
      | lst hx rx => cases r2 with
        | int => exact ⟨_, k, _, rfl, rfl, S2.sub _ _ hx, hz.1.1, hz.1.2, by rw [rx.length]; exact hz.2, fun p hp => newOwn S2 (reps_rep rx _) g2 hp⟩
    · exact g2.elim
  · exact g2.elim
/-- what is one's own is changed in place by a method -/
theorem own_put {G : Ent} {σ : St} {H1 F1 : Hp} {ρ1 : Ro} {j : Nat} {p : Bool} {xs ys : List D} {a : Addr} {ws us : List V} (S1 : Stt X.K G σ H1 F1 ρ1) (e4 : ρ1.getD j .un = .own p xs) (e1 : σ[j]? = some (some (V.ref a))) (f3 : F1 a = none) (r : Reps X.K F1 us ys) :
    Stt X.K G σ (upd H1 a (.lst us)) F1 (ρ1.set j (.own p ys)) :=
  S1.change (by rw [e4]; rfl) e1 (S1.own_upd (by rw [e4]; rfl) e1) (fun b o h => by
    by_cases eb : b = a
    · subst eb; rw [f3] at h; cases h
    · rw [upd_ne eb]; exact S1.sub b o h) Sm.refl (fun _ _ h => .inl h) S1.ft ⟨a, _, rfl, upd_same, f3, r⟩ rfl (by rw [e4]; rfl)
theorem AE.popAt {j : Nat} {ap cp : Pos} (h0 : PE X (.Name y py) (tVar j)) (ha : AE X W e fe) (hst : starEach [e] X.env = (false, eval e X.env) :: starEach [] X.env := by rfl)
    (hbase : attributeBase (.Name y py) "pop" X.env (eval (.Name y py) X.env) = eval (.Name y py) X.env := by rfl)
    (hfew : ((backTo cp (starEach [e] X.env)).all (fun x => !x.1) && (backToKw cp (keywordEach [] X.env)).all (fun x => x.1.isSome)
      && decide ([e].length + ([] : List Keyword).length + (if ([] : List Keyword).isEmpty then 0 else 1) < 30)) = true := by rfl)
    (hline : (ap.endLine == cp.line) = true := by rfl) (hplain : (backTo cp (starEach [] X.env)).any (·.1) = false := by rfl) :
    AE X W (.Call (.Attribute (.Name y py) "pop" ap) [e] [] cp) (mPopAt j fe) := by
  obtain ⟨t, p, q⟩ := ha
  refine ⟨_, pe_bm PySem.F.plainAttrs_list PySem.F.slot_list_pop PySem.F.type_list_pop mt_popAt h0 (pa_cons p pa_nil hst) hbase hfew hline hst hplain, fun G σ H F ρ Q S hg => ?_⟩
  unfold mPopAt at hg
  split at hg
  · rename_i p0 xs0 e0
    obtain ⟨a, vs, e1, e2, e3, r⟩ := own_at S e0
    refine ⟨_, e1, .inl ⟨rfl, vs, .of e2⟩, q G σ H F ρ _ S (hg.bind fun v ρ1 H1 F1 S1 s1 g1 w rw_ => ?_)⟩
    split at g1
    · rename_i p1 xs i e4
      obtain ⟨a', ws, f1, f2, f3, r'⟩ := own_at S1 e4
      rw [e1] at f1; cases f1
      cases rw_
      split at g1
      · rename_i k hk
        split at g1
        · rename_i hz
          split at g1
          · rename_i d hd
            obtain ⟨u, eu, ru⟩ := reps_get r' hd
            exact ⟨a, ws, i, k, u, rfl, rfl, f2, hz.1, hz.2, by rw [r'.length]; exact hk, eu, g1 _ F1 (own_put (ws := ws) S1 e4 e1 f3 (reps_erase k r')) Sm.refl _ ru⟩
          · exact g1.elim
        · exact g1.elim
      · exact g1.elim
    · exact g1.elim
  · exact hg.elim
theorem AE.ext {j : Nat} {ap cp : Pos} (h0 : PE X (.Name y py) (tVar j)) (ha : AE X W e fe) (hst : starEach [e] X.env = (false, eval e X.env) :: starEach [] X.env := by rfl)
    (hbase : attributeBase (.Name y py) "extend" X.env (eval (.Name y py) X.env) = eval (.Name y py) X.env := by rfl)
    (hfew : ((backTo cp (starEach [e] X.env)).all (fun x => !x.1) && (backToKw cp (keywordEach [] X.env)).all (fun x => x.1.isSome)
      && decide ([e].length + ([] : List Keyword).length + (if ([] : List Keyword).isEmpty then 0 else 1) < 30)) = true := by rfl)
    (hline : (ap.endLine == cp.line) = true := by rfl) (hplain : (backTo cp (starEach [] X.env)).any (·.1) = false := by rfl) :
    AE X W (.Call (.Attribute (.Name y py) "extend" ap) [e] [] cp) (mExt j fe) := by
  obtain ⟨t, p, q⟩ := ha
  refine ⟨_, pe_bm PySem.F.plainAttrs_list PySem.F.slot_list_extend PySem.F.type_list_extend (MtM.or mt_extend mt_extendT) h0 (pa_cons p pa_nil hst) hbase hfew hline hst hplain, fun G σ H F ρ Q S hg => ?_⟩
  unfold mExt at hg
  split at hg
  · rename_i p0 xs0 e0
    obtain ⟨a, vs, e1, e2, e3, r⟩ := own_at S e0
    refine ⟨_, e1, .inl ⟨rfl, vs, .of e2⟩, q G σ H F ρ _ S (hg.bind fun v ρ1 H1 F1 S1 s1 g1 w rw_ => ?_)⟩
    split at g1
    · rename_i p1 xs ys e4
      obtain ⟨a', ws, f1, f2, f3, r'⟩ := own_at S1 e4
      rw [e1] at f1; cases f1
      split at g1
      · rename_i hz
        cases rw_ with
        | lst hy ry => exact .inl ⟨a, _, ws, _, rfl, rfl, f2, S1.sub _ _ hy, by rw [r'.length, ry.length]; exact hz, g1 _ F1 (own_put (ws := ws) S1 e4 e1 f3 (r'.append ry)) Sm.refl _ .non⟩
      · exact g1.elim
    · rename_i p1 xs ys e4
      obtain ⟨a', ws, f1, f2, f3, r'⟩ := own_at S1 e4
      rw [e1] at f1; cases f1
      split at g1
      · rename_i hz
        cases rw_ with
        | tup hy ry => exact .inr ⟨a, _, ws, _, rfl, rfl, f2, SqTm S1.sub hy, by rw [r'.length, ry.length]; exact hz, g1 _ F1 (own_put (ws := ws) S1 e4 e1 f3 (r'.append ry)) Sm.refl _ .non⟩
      · exact g1.elim
    · exact g1.elim
  · exact hg.elim
end
end Mr
namespace Mr
open PySem PySem.Spec PyProof.Rows L2
variable [Lam] [Pins]
theorem enum_new1 {v : Value} {o : Obj} {J : Heap → Prop} (B : Begins v o J) :
    Meets (Builtin.«enumerate.__new__» ⟨[.type "enumerate", v], []⟩) (fun _ R s => J s.heap ∧
      R (.ok (.ret (.ref (s.heap.push o).objs.size))) { s with heap := (s.heap.push o).push { cls := .type "enumerate", data := .fields #[.none, .bool false, .ref s.heap.objs.size, rawInt 0, .none, .none] } }) :=
  .of_wp fun prog w A R s hh => by
    obtain ⟨hp, g, d, tk, os⟩ := s
    obtain ⟨hj, hr⟩ := hh
    have subE := sub_enumerate
    have it1 : ∀ {A1 : Around} {E1 : Value → Shared → Prop} {Q1 : Value → Shared → Prop}, Q1 (.ref hp.objs.size) ⟨hp.push o, g, d, tk, os⟩ → wpAny (model prog w) A1 (pyIter v) Q1 E1 ⟨hp, g, d, tk, os⟩ :=
      fun q => B.iter prog w _ _ ⟨hp, g, d, tk, os⟩ _ hj q
    wp_walk using it1
    refine wpAny_stack_any fun st => wpAny_pure ?_
    split
    · rename_i c _ _ _ _ _
      cases (c == Value.type "enumerate") <;>
        (wp_walk using it1
         exact ⟨_, rfl, hr⟩)
    · wp_walk using it1
      exact ⟨_, rfl, hr⟩
theorem enum_call1 {prog : Program} {w : World} {A : Around} {E : Value → Shared → Prop} {s : Shared} {v : Value} {o : Obj} {J : Heap → Prop} {Q : Value → Shared → Prop} (B : Begins v o J) (hj : J s.heap)
    (hq : ∀ h', IsEnum h' (s.heap.objs.size + 1) s.heap.objs.size 0 .none → h'.get? s.heap.objs.size = some o → h'.objs.size = s.heap.objs.size + 2 →
      (∀ b u, s.heap.get? b = some u → h'.get? b = some u) → Q (.ref (s.heap.objs.size + 1)) { s with heap := h' }) :
    wpAny (model prog w) A (call (.type "enumerate") [v]) Q E s := by
  refine callType_new F.called_enumerate (by decide) (F.typeCall_enumerate_1 _) (F.newCall_enumerate_1 _) (fun obj => F.args_object_init_2 obj _) F.entry_enumerate_new (enum_new1 B) ⟨hj, ?_⟩
  obtain ⟨z, hz⟩ : ∃ z, z = (s.heap.push o).objs.size := ⟨_, rfl⟩
  have ez : z = s.heap.objs.size + 1 := hz.trans (Heap.size_push ..)
  show _ ∧ _
  rw [← hz]
  have he : ∀ e : Obj, e.isFreed = false → ((s.heap.push o).push e).get? z = some e := fun e f => hz ▸ Heap.get?_push_size (s.heap.push o) f
  have h1 : IsEnum ((s.heap.push o).push { cls := .type "enumerate", data := .fields #[.none, .bool false, .ref s.heap.objs.size, rawInt 0, .none, .none] }) z s.heap.objs.size 0 .none := he _ rfl
  refine ⟨⟨_, h1, rfl⟩, ?_⟩
  rw [ez] at h1 ⊢
  exact hq _ h1 (Heap.get?_push_of_some _ (Heap.get?_push_size _ B.free)) (by rw [Heap.size_push, ← hz, ez]) fun b u q => Heap.get?_push_of_some _ (Heap.get?_push_of_some _ q)
/-- the tuple at a, each item in a new pair with its index -/
def IteT (K : PySem.W.Frag) (a : Addr) : It :=
  ⟨fun i H => ∃ (xs : List V) (x : V), SqT K H a xs ∧ xs[i]? = some x,
    fun i H v H' => ∃ T x, v = .ref T ∧ H T = none ∧ H' = upd H T (.tup [.int (i : Nat), x]) ∧ ∀ xs, SqT K H a xs → xs[i]? = some x,
    fun i H => ∃ xs : List V, SqT K H a xs ∧ xs.length ≤ i⟩
theorem turn_enumT {P : Program} {w : World} {K : PySem.W.Frag} {elts : List Expr} {kk : Nat} {tpos : Pos} (a e it : Addr) :
    Turn P w K (.Tuple elts kk tpos) (IteT K a) [e, it] e (fun i h => (∃ old, IsEnum h e it ((i : Nat) : Int) old) ∧ h.IsTupleIter it a i ∧ e ≠ it ∧ a ≠ it ∧ a ≠ e) where
  mem := by simp
  obj := fun i h st b hb => by
    obtain ⟨⟨old, he⟩, ⟨o, ho, hc, hd⟩, _⟩ := st
    rcases (by simpa using hb : b = e ∨ b = it) with rfl | rfl
    · exact ⟨_, he, fun v q => nomatch q⟩
    · exact ⟨o, ho, fun v q => by rw [hd] at q; cases q⟩
  keep := fun i h h' st k => let ⟨⟨old, he⟩, hi, r⟩ := st; ⟨⟨old, k e (by simp) _ he⟩, hi.at fun o q => k it (by simp) o q, r⟩
  item := by
    intro X hP hw hK hc i pins s σ H E I hf st hg
    subst hP hw hK
    obtain ⟨⟨old, he⟩, hit, ne1, ne2, ne3⟩ := st
    obtain ⟨xs, x, hq, hx⟩ := hg
    obtain ⟨its, rv, p, hz⟩ := I.tuple hq
    obtain ⟨u, hu, ru⟩ := rv.get hx
    have le : e < s.heap.objs.size := Heap.lt_size he
    have li : it < s.heap.objs.size := by obtain ⟨_, q, _⟩ := hit; exact Heap.lt_size q
    have hi : i < its.toArray.size := by
      have := (List.getElem?_eq_some_iff.mp hu).1
      simpa using this
    have D := Draws.tuple (prog := X.prog) (w := X.w) (A := X.A.in1) (by simpa using I.ok.hd hc) it a ne2 its.toArray
    refine wpAny_pyNext_enum_itemD D he ⟨hit, p⟩ hi ne1 (by simp [ne1, Ne.symm ne3]) fun y h' tk hy ho hs' hT hsz hk => ?_
    have ey : y = u := by
      have : its[i]? = some y := by simpa using hy
      rw [hu] at this; cases this; rfl
    subst ey
    refine ⟨_, rfl, wpAny_letOwnedTupleGo_enum (s := { s with heap := h', toks := tk + 1 }) ho fun h'' he' sb => ?_⟩
    have hT2 : h''.get? s.heap.objs.size = some { cls := .type "tuple", data := .seq #[.int i tk, y] } := (sb.2 _ (Nat.ne_of_gt le)).trans hT
    have new : ObjOk X.prog X.w (upd H s.heap.objs.size (.tup [.int (i : Nat), x])) h'' s.heap.objs.size (.tup [.int (i : Nat), x]) :=
      ⟨by show 2 ≤ sizeLine; decide, [.int i tk, y], .cons ⟨_, rfl⟩ (.cons ru .nil), ⟨_, hT2, rfl, _, rfl⟩⟩
    have J : Inv X pins σ (upd H s.heap.objs.size (.tup [.int (i : Nat), x])) { s with heap := h'', toks := tk + 1 } :=
      I.turnedNew (ch := [e, it]) (fun b ob hb q => (sb.2 b (fun z => hb (by simp [z]))).trans (hk b ob (fun z => hb (by simp [z])) (fun z => hb (by simp [z])) q)) hf (Nat.le_refl _) new
    refine ⟨.ref s.heap.objs.size, _, J, rfl, ⟨_, x, rfl, I.hok.fresh (Nat.le_refl _), rfl, fun ys hy => ?_⟩, ⟨⟨y, ?_⟩, hs'.1.at fun o q => (sb.2 it (Ne.symm ne1)).trans q, ne1, ne2, ne3⟩, fun b hb => ?_⟩
    · have e1 := I.tuple_inj hy hq
      rw [e1]; exact hx
    · rw [show ((i + 1 : Nat) : Int) = (i : Int) + 1 by omega]; exact he'
    · have lb : b < s.heap.objs.size := by
        rcases (by simpa using hb : b = e ∨ b = it) with rfl | rfl
        · exact le
        · exact li
      rw [upd_ne (Nat.ne_of_lt lb)]
      exact (hf b hb).1
  done := by
    intro X hP hw hK hc i pins s σ H E I hf st hg
    subst hP hw hK
    obtain ⟨⟨old, he⟩, hit, ne1, ne2, ne3⟩ := st
    obtain ⟨xs, hq, hx⟩ := hg
    obtain ⟨its, rv, p, hz⟩ := I.tuple hq
    obtain ⟨f0, f1, f2, f3, f4, f5⟩ := hf it (by simp)
    have hl := rv.length
    have hh : X.A.in1.handled = none := by simpa using I.ok.hd hc
    have D : Draws X.prog X.w X.A.in1 it [it, a] i (fun _ _ => True) (fun j h => j = i ∧ h.IsTupleIter it a i ∧ h.IsTuple a its.toArray) :=
      { live := fun j h st => let ⟨_, ⟨o, ho, _⟩, _⟩ := st; ⟨o, ho⟩
        frame := fun j h h' st k => ⟨st.1, st.2.1.at fun o q => k it (by simp) o q, st.2.2.at fun o q => k a (by simp) o q⟩
        item := fun j s Q E hj st _ => absurd st.1 (by omega)
        done := fun s Q E st hE => wpAny_nextOf_tuple_end hh st.2.1 st.2.2 (by simp; omega) hE }
    exact wpAny_pyNext_enum_endD D he ⟨rfl, hit, p⟩ fun h' eb => ⟨rfl, I.turned (t' := s.toks) (fun b o hb q => eb b o hb q) f0 f1 f3 f4 f5⟩
  self := fun A i s Q E st h => let ⟨⟨_, he⟩, _⟩ := st; wpAny_pyIter_enum he h
/-- what enumerate gives -/
def enumL (xs : List D) : List D := (List.range xs.length).zipWith (fun (i : Nat) x => .tup [.int i, x]) xs
def enumD : List D → FR (List D)
  | [.lst xs] => .ok (enumL xs)
  | [.frz xs] => .ok (enumL xs)
  | [.tup xs] => .ok (enumL xs)
  | _ => .stuck
section
variable {X : Cx} {W : WX}
def iEnumA (K : PySem.W.Frag) (ta : TA) : TI := fun σ H R => ta σ H fun vs H1 => ∃ a xs, vs = [.ref a] ∧ ((SqL K H1 a xs ∧ R (Ite K a) H1) ∨ (SqT K H1 a xs ∧ R (IteT K a) H1))
theorem pi_enumA {e : Expr} {ta : TA} {p pos tpos : Pos} {elts : List Expr} {kk : Nat} (hg : Gl X "enumerate") (hm : X.mg "enumerate" = none) (ha : PA X [e] ta) (hs : starEach [e] X.env = [(false, eval e X.env)] := by rfl) :
    PI X (.Tuple elts kk tpos) (.Call (.Name "enumerate" p) [e] [] pos) (iEnumA X.K ta) := by
  refine ⟨fun pins s σ H R I h => Call_ (ld_blt I hg hm boot_enumerate (PyProof.Rows.callWith_type1 (thn (ha.run pos pins s σ H _ I h) fun us s1 ⟨vs, H1, I1, r1, q1⟩ => ?_) hs rfl))⟩
  obtain ⟨a, xs, ex, q⟩ := q1
  subst ex
  cases r1 with
  | cons r rr =>
    cases rr
    cases r
    have fresh : ∀ b : Addr, b = s1.heap.objs.size + 1 ∨ b = s1.heap.objs.size → s1.heap.objs.size ≤ b := fun b z => by rcases z with z | z <;> rw [z] <;> first | exact Nat.le_refl _ | exact Nat.le_succ _
    rcases q with ⟨hq, q⟩ | ⟨hq, q⟩
    · obtain ⟨its, rv, p', hz⟩ := I1.list hq
      refine call_enumerate_list p'.isList fun h' he hit hsz hk => wpAny_pyIter_enum he ?_
      have I2 : Inv X pins σ H1 { s1 with heap := h' } := I1.kept (t' := s1.toks) hk
      exact ⟨s1.heap.objs.size + 1, [s1.heap.objs.size + 1, s1.heap.objs.size], _, _, H1, rfl, I2, turn_enum a (s1.heap.objs.size + 1) s1.heap.objs.size, ⟨⟨.none, he⟩, hit, Nat.succ_ne_self _⟩,
        fun b hb => I1.fpOk (fresh b (by simpa using hb)) (I1.hok.fresh (fresh b (by simpa using hb))), q⟩
    · obtain ⟨its, rv, p', hz⟩ := I1.tuple hq
      have la : a < s1.heap.objs.size := by obtain ⟨_, q, _⟩ := p'; exact Heap.lt_size q
      refine enum_call1 (begins_tuple a its.toArray) p' fun h' he hit hsz hk => wpAny_pyIter_enum he ?_
      have I2 : Inv X pins σ H1 { s1 with heap := h' } := I1.kept (t' := s1.toks) hk
      exact ⟨s1.heap.objs.size + 1, [s1.heap.objs.size + 1, s1.heap.objs.size], _, _, H1, rfl, I2, turn_enumT a (s1.heap.objs.size + 1) s1.heap.objs.size,
        ⟨⟨.none, he⟩, ⟨_, hit, rfl, rfl⟩, Nat.succ_ne_self _, Nat.ne_of_lt la, Nat.ne_of_lt (Nat.lt_succ_of_lt la)⟩,
        fun b hb => I1.fpOk (fresh b (by simpa using hb)) (I1.hok.fresh (fresh b (by simpa using hb))), q⟩
theorem enumL_get {xs : List D} {i : Nat} {d : D} (h : (enumL xs)[i]? = some d) : ∃ x, xs[i]? = some x ∧ d = .tup [.int (i : Nat), x] := by
  obtain ⟨j, x, e1, e2, e3⟩ := zip_get h
  rw [List.getElem?_range (List.getElem?_eq_some_iff.mp e2).1] at e1
  cases e1
  exact ⟨x, e2, e3⟩
theorem enumL_len {xs : List D} : (enumL xs).length = xs.length := by unfold enumL; simp
theorem okE {K : PySem.W.Frag} {F : Hp} {a : Addr} {vs : List V} {ds : List D} (h : SqL K F a vs) (r : Reps K F vs ds) : ItOk K (Ite K a) F (enumL ds) := fun i H F' s1 s2 => by
  have h1 := SqLm (s1.tr s2) h
  refine ⟨fun hi => ⟨vs, h1, by rw [r.length]; rw [enumL_len] at hi; exact Nat.le_of_eq hi⟩, fun d hd => ?_⟩
  obtain ⟨x, e1, rfl⟩ := enumL_get hd
  obtain ⟨v, f1, rv⟩ := r.get i e1
  refine ⟨⟨vs, v, h1, f1⟩, fun z H' ⟨T, x', ez, hT, eH, k1⟩ => ?_⟩
  cases (k1 vs h1).symm.trans f1
  subst ez eH
  exact ⟨upd F' T (.tup [.int (i : Nat), v]), .tup s2 hT, .tup (.of upd_same) (.cons (.int _) (.cons (rv.mono (s1.tr (Sm.updN (s2.none hT)))) .nil)) (.no rfl)⟩
theorem okET {K : PySem.W.Frag} {F : Hp} {a : Addr} {vs : List V} {ds : List D} (h : SqT K F a vs) (r : Reps K F vs ds) : ItOk K (IteT K a) F (enumL ds) := fun i H F' s1 s2 => by
  have h1 := SqTm (s1.tr s2) h
  refine ⟨fun hi => ⟨vs, h1, by rw [r.length]; rw [enumL_len] at hi; exact Nat.le_of_eq hi⟩, fun d hd => ?_⟩
  obtain ⟨x, e1, rfl⟩ := enumL_get hd
  obtain ⟨v, f1, rv⟩ := r.get i e1
  refine ⟨⟨vs, v, h1, f1⟩, fun z H' ⟨T, x', ez, hT, eH, k1⟩ => ?_⟩
  cases (k1 vs h1).symm.trans f1
  subst ez eH
  exact ⟨upd F' T (.tup [.int (i : Nat), v]), .tup s2 hT, .tup (.of upd_same) (.cons (.int _) (.cons (rv.mono (s1.tr (Sm.updN (s2.none hT)))) .nil)) (.no rfl)⟩
theorem AI.enum {e : Expr} {fs : M (List D)} {p pos tpos : Pos} {elts : List Expr} {kk : Nat} (hg : Gl X "enumerate") (hm : X.mg "enumerate" = none) (ha : AA X W [e] fs) (hs : starEach [e] X.env = [(false, eval e X.env)] := by rfl) :
    AI X W (.Tuple elts kk tpos) (.Call (.Name "enumerate" p) [e] [] pos) (mItL enumD fs) := by
  obtain ⟨t, pa, qa⟩ := ha
  refine ⟨_, pi_enumA hg hm pa hs, fun G σ H F ρ R S hgd => qa G σ H F ρ _ S (hgd.bind fun ds ρ1 H1 F1 S1 s1 g1 vs r1 => ?_)⟩
  unfold enumD at g1
  split at g1
  · obtain ⟨v, rfl, rv⟩ := reps1 r1
    cases rv with
    | lst hx rx => exact ⟨_, _, rfl, .inl ⟨.of (S1.sub _ _ hx), g1 H1 F1 S1 Sm.refl _ (okE (.of hx) rx)⟩⟩
  · obtain ⟨v, rfl, rv⟩ := reps1 r1
    cases rv with
    | frz hx rx => exact ⟨_, _, rfl, .inl ⟨SqLm S1.sub hx, g1 H1 F1 S1 Sm.refl _ (okE hx rx)⟩⟩
  · obtain ⟨v, rfl, rv⟩ := reps1 r1
    cases rv with
    | tup hx rx => exact ⟨_, _, rfl, .inr ⟨SqTm S1.sub hx, g1 H1 F1 S1 Sm.refl _ (okET hx rx)⟩⟩
  · exact g1.elim
end
end Mr
namespace Mr
open PySem PySem.Spec PyProof.Rows L2
variable [Lam] [Pins]
section
variable {X : Cx} {W : WX} {e o : Expr} {es : List Expr} {fe : M D} {fs : M (List D)} {p pos apos : Pos} {k : Nat}
/-- *e, .. -/
def itemsD : D → FR (List D)
  | .tup xs => .ok xs
  | .lst xs => .ok xs
  | .frz xs => .ok xs
  | _ => .stuck
def mStar (fe : M D) (fs : M (List D)) : M (List D) := fun ρ => (fe ρ).bind fun d ρ => ((itemsD d).lift ρ).bind fun xs ρ => (fs ρ).bind fun ys ρ => .ok (xs ++ ys) ρ
theorem AA.star (he : AE X W e fe) (hr : AA X W es fs) (hs : starEach (.Starred e p :: es) X.env = (true, eval e X.env) :: starEach es X.env := by rfl) : AA X W (.Starred e p :: es) (mStar fe fs) := by
  obtain ⟨t, pe, qe⟩ := he
  obtain ⟨u, pa, qa⟩ := hr
  refine ⟨_, StX.pa_star pe pa hs, fun G σ H F ρ Q S hg => qe G σ H F ρ _ S (hg.bind fun d ρ1 H1 F1 S1 s1 g1 v r1 => ?_)⟩
  have go : ∀ (a : Addr) (xs : List V) (ds : List D), v = .ref a → (SqT X.K H1 a xs ∨ SqL X.K H1 a xs) → Reps X.K F1 xs ds → itemsD d = .ok ds → ∃ p xs, v = V.ref p ∧ (SqT X.K H1 p xs ∨ SqL X.K H1 p xs) ∧ u σ H1 fun ys H2 => Q (xs ++ ys) H2 := fun a xs ds ev hx rx ed => by
    rw [ed] at g1
    have g1 : Good X.K G W σ F1 ((fs ρ1).bind fun ys ρ => .ok (ds ++ ys) ρ) (PL X.K Q) := g1
    exact ⟨a, xs, ev, hx, qa G σ H1 F1 ρ1 _ S1 (g1.bind fun ys ρ2 H2 F2 S2 s2 g2 ws r2 => g2 H2 F2 S2 Sm.refl _ ((rx.mono s2).append r2))⟩
  cases r1 with
  | tup hx rx => exact go _ _ _ rfl (.inl (SqTm S1.sub hx)) rx rfl
  | lst hx rx => exact go _ _ _ rfl (.inr (.of (S1.sub _ _ hx))) rx rfl
  | frz hx rx => exact go _ _ _ rfl (.inr (SqLm S1.sub hx)) rx rfl
  | _ => exact g1.elim

/-- the class c has f as a property whose getter does m -/
structure PropG (X : Cx) (k : Nat) (c f : Str) (m : List D → FR D) : Prop where
  cl : Cls X.K (He.ga X.K c)
  ex : ∃ p g fd ps, PropOf X.K (He.ga X.K c) f p g ∧ FnG X.prog X.w X.K X.mg X.base k g fd ps (PSp X.K 1 m) ∧ Binds X.K fd ps []
def noxF : FR D → FR D
  | .ok d => .ok d
  | _ => .stuck
/-- what an instance's class does with it -/
def clsD (cs : List (Str × (List D → FR D))) : D → FR D
  | .obj c ns ds => match cs.lookup c with
    | some m => noxF (m [.obj c ns ds])
    | none => .stuck
  | _ => .stuck
theorem prop_get {pins : List (Addr × Obj)} {σ : L2.St} {H : Hp} {s : Shared} {Q : VK} {b : Bool} {E' : Value → Shared → Prop} {C pp g a dx : Addr} {fs : List (Str × V)} {f : Str} {fd : FuncData} {ps : List Str} {sp : Sp} (I : Inv X pins σ H s) (ea : H a = some (.ins C dx fs)) (c : Cls X.K C) (hp : PropOf X.K C f pp g)
    (F : FnG X.prog X.w X.K X.mg X.base k g fd ps sp) (hr : RoomG (k + 1) X.A) (hb : Binds X.K fd ps []) (h : sp [.ref a] H Q E0F) :
    wpAny (model X.prog X.w) X.A (getAttr (.ref a) f b) (EP X pins σ Q) E' s := by
  obtain ⟨mA, O, _⟩ := ins_get I.hok ea
  obtain ⟨od, J, _⟩ := O.look
  obtain ⟨rest, hrec⟩ := hp.rec_
  have I1 := I.tok (s.toks + 1)
  have hl : ([Value.ref a] ++ ([] : List Value)).length = ps.length := F.len _ _ _ _ h
  have hc : (PySem.W.clsIn X.K C).isSome = true := by
    obtain ⟨cd, hc, _⟩ := PySem.W.any_some c.hd
    rw [hc]; rfl
  have room : RoomG k X.A.in1 := ⟨hr.r.in1, hr.g⟩
  refine PySem.W.get_bind I.kIn J (PySem.W.plainGet_of (c.get f)).1 (PySem.W.findObj_data hc hp.at_ hp.get hp.tak) (PySem.W.plainGet_of (c.get f)).2 (wpAny_call (PySem.W.prop_get (s := { s with toks := s.toks + 1 }) I.kIn hrec ?_))
  refine codeAny_mono (F.run X.A.in1 X.stack { s with toks := s.toks + 1 } H ⟨[.ref a], []⟩ ([Value.ref a] ++ []) [V.ref a] Q E0F room I1.env0.in1 (hb _ [.ref a] I1.kIn hl) (.cons rfl .nil) h) fun r s2 q => ?_
  match r, q with
  | .error er, q => obtain ⟨_, _, _, _, _, _, _, _, _, _, _, _, z⟩ := q; exact z.elim
  | .ok (.ret u), q =>
    obtain ⟨v, H', I3, rv, q3⟩ := I1.after q
    show wpAny _ _ (handedOut u) _ _ _
    rw [PySem.W.handedOut_of (handed_of rv)]
    exact wpAny_pure ⟨v, H', I3, rv, q3⟩
  | .ok .next, q => exact False.elim q
  | .ok .brk, q => exact False.elim q
  | .ok .cont, q => exact False.elim q
def tPropG (X : Cx) (k : Nat) (f : Str) (ta : TE) : TE := fun σ H Q => ta σ H fun x H1 => ∃ c m a dx fs, PropG X k c f m ∧ x = .ref a ∧ H1 a = some (.ins (He.ga X.K c) dx fs) ∧ PSp X.K 1 m [.ref a] H1 Q E0F
theorem pe_propG {ta : TE} {f : Str} (he : PE X e ta) (hr : RoomG (k + 1) X.A) (hab : attributeBase e f X.env (eval e X.env) = eval e X.env) : PE X (.Attribute e f pos) (tPropG X k f ta) := by
  refine ⟨fun pins s σ H Q I h => attr_of hab (thn (he.run pins s σ H _ I h) fun u s1 ⟨x, H1, I1, rx, c, m, a, dx, fs, P, ex, ea, q⟩ => ?_)⟩
  subst ex
  obtain rfl : u = Value.ref a := rx
  obtain ⟨p, g, fd, ps, po, F, hb⟩ := P.ex
  exact prop_get I1 ea P.cl po F hr hb q
theorem noxF_ok {r : FR D} {K : PySem.W.Frag} {G : Ent} {σ : L2.St} {H F : Hp} {ρ : Ro} {Q : VK} (S : Stt K G σ H F ρ) (g : Good K G W σ F ((noxF r).lift ρ) (PD K Q)) : GoodF K H F r Q E0F := by
  cases r with
  | ok d => exact fun v H' F' A rv => g H' F' (S.aft A) A.f v rv
  | exc x => exact g.elim
  | stuck => exact g
theorem lookup_mem {α : Type} {c : Str} {m : α} : ∀ {cs : List (Str × α)}, cs.lookup c = some m → (c, m) ∈ cs
  | [], em => by cases em
  | (c', m') :: r, em => by
    rw [List.lookup_cons] at em
    split at em
    · rename_i hc
      cases em
      rw [beq_iff_eq.mp hc]; exact List.mem_cons_self ..
    · exact List.mem_cons_of_mem _ (lookup_mem em)
theorem AE.prop {f : Str} {cs : List (Str × (List D → FR D))} (he : AE X W e fe) (hp : ∀ q ∈ cs, PropG X k q.1 f q.2) (hr : RoomG (k + 1) X.A) (hab : attributeBase e f X.env (eval e X.env) = eval e X.env) : AE X W (.Attribute e f pos) (m1 (clsD cs) fe) := by
  obtain ⟨t, pe, qe⟩ := he
  refine ⟨_, pe_propG pe hr hab, fun G σ H F ρ Q S hg => qe G σ H F ρ _ S (hg.bind fun d ρ1 H1 F1 S1 s1 g1 v r1 => ?_)⟩
  cases r1 with
  | obj h1 h2 h3 h4 =>
    rename_i c ns vs fs' ds
    unfold clsD at g1
    cases em : cs.lookup c with
    | none => simp only [em] at g1; exact g1.elim
    | some m =>
      simp only [em] at g1
      have hm := lookup_mem em
      exact ⟨c, m, _, _, _, hp _ hm, rfl, S1.sub _ _ h1, rfl, F1, [.obj c ns ds], S1.pre, .cons (.obj h1 h2 h3 h4) .nil, noxF_ok S1 g1⟩
  | _ => exact g1.elim
/-- the class c has a method f that does m -/
structure MethG (X : Cx) (k n : Nat) (c f : Str) (m : List D → FR D) : Prop where
  cl : Cls X.K (He.ga X.K c)
  ex : ∃ g fd ps, Meth X.K (He.ga X.K c) f g ∧ FnG X.prog X.w X.K X.mg X.base k g fd ps (PSp X.K n m) ∧ Binds X.K fd ps []
def methOf (cs : List (Str × (List D → FR D))) (f : Str) : D → Option (List D → FR D)
  | .obj c ns _ => if f ∈ ns then none else cs.lookup c
  | _ => none
def mMeth (cs : List (Str × (List D → FR D))) (f : Str) (n : Nat) (fe : M D) (fs : M (List D)) : M D := fun ρ => (fe ρ).bind fun d ρ => match methOf cs f d with
  | some m => (fs ρ).bind fun ds ρ => (if ds.length + 1 = n then m (d :: ds) else .stuck).lift ρ
  | none => .stuck
theorem methOf_obj {cs : List (Str × (List D → FR D))} {f : Str} {d : D} {m : List D → FR D} (h : methOf cs f d = some m) : ∃ c ns ds, d = .obj c ns ds ∧ f ∉ ns ∧ (c, m) ∈ cs := by
  unfold methOf at h
  split at h
  · split at h
    · cases h
    · rename_i hn; exact ⟨_, _, _, rfl, hn, lookup_mem h⟩
  · cases h
theorem zip_none {f : Str} : ∀ {ns : List Str} {vs : List V}, f ∉ ns → (ns.zip vs).lookup f = none
  | [], _, _ => rfl
  | _ :: _, [], _ => rfl
  | n :: ns, v :: vs, h => by
    rw [List.zip_cons_cons, List.lookup_cons]
    have nb : (f == n) = false := by
      have : f ≠ n := fun z => h (by rw [z]; exact List.mem_cons_self ..)
      simp [this]
    rw [nb]
    exact zip_none fun z => h (List.mem_cons_of_mem _ z)
def tMethG (X : Cx) (W : WX) (k n : Nat) (f : Str) (ta : TE) (t : TA) : TE := fun σ H Q => ta σ H fun x H1 => ∃ a c dx fs, x = .ref a ∧ H1 a = some (.ins (He.ga X.K c) dx fs) ∧ fs.lookup f = none ∧ (∃ m, MethG X k n c f m) ∧
  t σ H1 fun vs H2 => ∃ m, MethG X k n c f m ∧ PSp X.K n m (x :: vs) H2 Q (WE W σ)
theorem pe_methG {ta : TE} {t : TA} {m : Str} {n : Nat} {pl : Sem Bool} (he : PE X o ta) (hr : RoomG k X.A) (tk : L2N.Takes X W) (ha : PA X (e :: es) t)
    (hst : starEach (e :: es) X.env = (false, eval e X.env) :: starEach es X.env := by rfl) (hpl : (backTo pos (starEach es X.env)).any (·.1) = false := by rfl)
    (ht : eval (.Call (.Attribute o m apos) (e :: es) [] pos) X.env = (do
      let ov ← eval o X.env
      standAt apos.atName
      let (f, first) ← holding [ov] (getMethod ov m pl)
      callWith pos f first (backTo pos (starEach (e :: es) X.env)) (backToKw pos (keywordEach [] X.env))) := by rfl) :
    PE X (.Call (.Attribute o m apos) (e :: es) [] pos) (tMethG X W k n m ta t) := by
  refine ⟨fun pins s σ H Q I h => PySem.W.methodCall_KW (pl := pl) (thn (he.run pins s σ H _ I h) fun u s1 ⟨x, H1, I1, rx, a, c, dx, fs, ex, ea, l, ⟨m0, G0⟩, q⟩ => ?_) ht⟩
  subst ex
  obtain rfl : u = Value.ref a := rx
  obtain ⟨g, fd, ps, hm, F0, hb0⟩ := G0.ex
  refine getmeth_ok I1 ea G0.cl hm l (PySem.W.callWith_K (first := [.ref a]) (h₀ := X.base) I.ok.mod.kin hm.kp (thn (ha.run pos pins s1 σ H1 _ I1 q) fun us s2 ⟨vs, H2, I2, r, m1, G1, q2⟩ => ⟨I2.kIn, ?_⟩) hst hpl)
  obtain ⟨g1, fd1, ps1, hm1, F1, hb1⟩ := G1.ex
  have eg : g1 = g := by
    have h1 := hm1.at_
    rw [hm.at_] at h1
    cases h1; rfl
  subst eg
  have q3 : PSp X.K n m1 ((.ref a :: vs) ++ []) H2 Q (WE W σ) := by rw [List.append_nil]; exact q2
  exact run_fnW (us := .ref a :: us) (vs := .ref a :: vs) F1 hr hb1 .nil tk I2 (.cons rfl r) q3
theorem AE.meth {m : Str} {n : Nat} {cs : List (Str × (List D → FR D))} {pl : Sem Bool} (he : AE X W o fe) (hp : ∀ q ∈ cs, MethG X k n q.1 m q.2) (hr : RoomG k X.A) (tk : L2N.Takes X W) (ha : AA X W (e :: es) fs)
    (hst : starEach (e :: es) X.env = (false, eval e X.env) :: starEach es X.env := by rfl) (hpl : (backTo pos (starEach es X.env)).any (·.1) = false := by rfl)
    (ht : eval (.Call (.Attribute o m apos) (e :: es) [] pos) X.env = (do
      let ov ← eval o X.env
      standAt apos.atName
      let (f, first) ← holding [ov] (getMethod ov m pl)
      callWith pos f first (backTo pos (starEach (e :: es) X.env)) (backToKw pos (keywordEach [] X.env))) := by rfl) :
    AE X W (.Call (.Attribute o m apos) (e :: es) [] pos) (mMeth cs m n fe fs) := by
  obtain ⟨t, pe, qe⟩ := he
  obtain ⟨u, pa, qa⟩ := ha
  refine ⟨_, pe_methG (W := W) (n := n) pe hr tk pa hst hpl ht, fun G σ H F ρ Q S hg => qe G σ H F ρ _ S (hg.bind fun d ρ1 H1 F1 S1 s1 g1 v r1 => ?_)⟩
  cases em : methOf cs m d with
  | none => simp only [em] at g1; exact g1.elim
  | some mm =>
    simp only [em] at g1
    obtain ⟨c, ns, ds, rfl, hn, hc⟩ := methOf_obj em
    cases r1 with
    | obj h1 h2 h3 h4 =>
      refine ⟨_, c, _, _, rfl, S1.sub _ _ h1, by rw [h2]; exact zip_none hn, ⟨mm, hp _ hc⟩, qa G σ H1 F1 ρ1 _ S1 (g1.bind fun es2 ρ3 H3 F3 S3 s3 g3 ws r3 => ?_)⟩
      have g3 : Good X.K G W σ F3 ((if es2.length + 1 = n then mm (.obj c ns ds :: es2) else FR.stuck).lift ρ3) (PD X.K Q) := g3
      split at g3
      · rename_i hl
        exact ⟨mm, hp _ hc, by rw [List.length_cons, r3.length]; exact hl, F3, .obj c ns ds :: es2, S3.pre, .cons (.obj (s3 _ _ h1) h2 h3 (h4.mono s3)) r3, aftGood S3 g3⟩
      · exact g3.elim
end
end Mr
namespace Mr
open PySem PySem.Spec PyProof.Rows L2
variable [Lam] [Pins]
/-- what the text says of the class U -/
structure IsiF (K : PySem.W.Frag) (U : Str) : Prop where
  cl : Cls K (He.ga K U)
  ha : PySem.W.findIn K (.ref (He.ga K U)) "__class__" = some (some (.builtin "object.__class__"))
  hn : PySem.W.specialIn K (.builtin "object.__class__") "__get__" = some (some (.builtin "getset_descriptor.__get__"))
  ht : PySem.W.takesIn K (.builtin "object.__class__") = some true
  hm : PySem.W.mroIn K (He.ga K U) (.type "object") = some true
  ty : ∀ t ∈ (["NoneType", "bool", "int", "str", "tuple", "list", "dict"] : List String), PySem.W.kitOne K (.type t) (.ref (He.ga K U)) = some false
def isiOD (U : Str) : D → FR D
  | .obj c _ _ => if c = U then .ok (.bl true) else .stuck
  | .non => .ok (.bl false)
  | .bl _ => .ok (.bl false)
  | .int _ => .ok (.bl false)
  | .str _ => .ok (.bl false)
  | .tup _ => .ok (.bl false)
  | .lst _ => .ok (.bl false)
  | .dct _ _ => .ok (.bl false)
  | _ => .stuck
section
variable {X : Cx} {W : WX} {e : Expr} {fe : M D} {p p2 pos : Pos}
end
def reprD : List D → FR D
  | [d] => if okD 12 d = true ∧ (py d).showable = true ∧ (py d).shown.length ≤ sizeLine then .ok (.str (py d).shown) else .stuck
  | _ => .stuck
mutual
theorem okD_noDict : ∀ (n : Nat) (d : D), okD n d = true → (py d).hasDict = false
  | _, .non, _ => rfl
  | _, .bl _, _ => rfl
  | _, .int _, _ => rfl
  | _, .str _, _ => rfl
  | 0, .tup xs, h => by simp [okD] at h
  | n + 1, .tup xs, h => by simpa [py, PyData.hasDict] using okDs_noDict n xs (by simpa [okD] using h)
  | 0, .lst xs, h => by simp [okD] at h
  | n + 1, .lst xs, h => by simpa [py, PyData.hasDict] using okDs_noDict n xs (by simpa [okD] using h)
  | 0, .frz xs, h => by simp [okD] at h
  | n + 1, .frz xs, h => by simpa [py, PyData.hasDict] using okDs_noDict n xs (by simpa [okD] using h)
  | _, .obj _ _ _, h => by simp [okD] at h
  | _, .dct _ _, h => by simp [okD] at h
  | _, .opq _, h => by simp [okD] at h
  | _, .any, h => by simp [okD] at h
theorem okDs_noDict : ∀ (n : Nat) (ds : List D), okDs n ds = true → PyData.hasDictAll (pys ds) = false
  | _, [], _ => rfl
  | n, x :: xs, h => by
    rw [okDs, Bool.and_eq_true] at h
    simp [pys, PyData.hasDictAll, okD_noDict n x h.1, okDs_noDict n xs h.2]
end
def rRepr (K : PySem.W.Frag) : List V → Hp → VK → Prop := fun vs H Q => ∃ v d, vs = [v] ∧ Dp K H v d ∧ d.hasDict = false ∧ d.showable = true ∧ d.depth ≤ 12 ∧ d.shown.length ≤ sizeLine ∧ Q (.str d.shown) H
theorem call_repr {X : Cx} (hg : X.A.guards = some []) (hu : X.A.units + 64 < cLine) : CallR X (.builtin "repr") (rRepr X.K) := by
  intro pins s σ H xs us Q I r h
  obtain ⟨v, d, rfl, hd, nd, sd, dd, ld, q⟩ := h
  obtain ⟨u, rfl, ru⟩ : ∃ u, us = [u] ∧ RelV v u := by
    cases r with
    | cons r1 rr => cases rr; exact ⟨_, rfl, r1⟩
  obtain ⟨as, rd⟩ := Dp.reads I d v u hd ru
  have fin : ∀ (h' : Heap) (t : Tok) (tk : Nat), (∀ b o, s.heap.get? b = some o → h'.get? b = some o) → EP X pins σ Q (.str d.shown t) { s with heap := h', toks := tk } := fun h' t tk k =>
    ⟨.str d.shown, H, I.kept (t' := tk) k, ⟨t, rfl⟩, q⟩
  cases u with
  | ref a => exact repr_of_reads' rd sd (fun z => by rw [nd] at z; cases z) hg (by omega) (fun b o e => e) (fun h' t tk k => fin h' t tk k) ld
  | none =>
    cases rd
    exact PySem.P.repr_of_none (fin s.heap _ _ fun _ _ e => e)
  | bool b =>
    cases rd
    refine PySem.P.repr_of_bool ?_
    have := fin s.heap s.toks (s.toks + 1) fun _ _ e => e
    rwa [PyData.shown_bool] at this
  | int i t =>
    cases rd
    refine PySem.P.repr_of_int (by simpa [PyData.showable] using sd) ?_
    have := fin s.heap s.toks (s.toks + 1) fun _ _ e => e
    rwa [PyData.shown_int] at this
  | str x t =>
    cases rd
    rw [PyData.shown_str] at ld
    refine PySem.P.repr_of_str ?_ ld
    have := fin s.heap s.toks (s.toks + 1) fun _ _ e => e
    rwa [PyData.shown_str] at this
  | _ => cases rd
section
variable {X : Cx} {W : WX}
theorem CA.repr (hg : X.A.guards = some []) (hu : X.A.units + 64 < cLine) : CA X W (.builtin "repr") reprD := by
  refine ⟨_, call_repr hg hu, fun G σ H F ρ vs ds Q S r hgd => ?_⟩
  unfold reprD at hgd
  split at hgd
  · rename_i d
    obtain ⟨v, rfl, rv⟩ := reps1 r
    split at hgd
    · rename_i hz
      obtain ⟨h1, h2, h3⟩ := hz
      exact ⟨v, py d, rfl, rep_dp 12 (rv.mono S.sub) h1, okD_noDict 12 d h1, h2, (okD_py 12 d h1).2, h3, hgd H F S Sm.refl _ (.str _)⟩
    · exact hgd.elim
  · exact hgd.elim
end
end Mr
namespace Mr
open PySem PySem.Spec PyProof.Rows L2
variable [Lam] [Pins]
theorem put_new {kvs : List (Key × V)} {k : Key} {v : V} (h : k ∉ kvs.map (·.1)) : putK kvs k v = kvs ++ [(k, v)] := by
  unfold putK
  rw [if_neg]
  intro z
  obtain ⟨q, hq, e⟩ := List.any_eq_true.mp z
  exact h (List.mem_map.mpr ⟨q, hq, of_decide_eq_true e⟩)
theorem merge_nodup : ∀ (more kvs : List (Key × V)), ((kvs ++ more).map (·.1)).Nodup → mergeK kvs more = kvs ++ more
  | [], kvs, _ => by simp [mergeK]
  | (k, v) :: r, kvs, h => by
    have hk : k ∉ kvs.map (·.1) := fun z => by
      rw [List.map_append, List.map_cons] at h
      exact (List.nodup_append.mp h).2.2 k z k (List.mem_cons_self ..) rfl
    show mergeK (putK kvs k v) r = _
    rw [put_new hk, merge_nodup r (kvs ++ [(k, v)]) (by simpa using h)]
    simp
section
variable {X : Cx} {W : WX} {pos : Pos}
/-- a display's pairs: its keys are written texts -/
def AP (X : Cx) (W : WX) (pos : Pos) (keys : List (Option Expr)) (es : List Expr) (ks : List Key) (f : M (List D)) : Prop := ∃ trs, PPs X pos keys es trs ∧ keys.length = ks.length ∧ es.length = ks.length ∧ keys.all (·.isSome) = true ∧
  ∀ G σ H F ρ Q, Stt X.K G σ H F ρ → Good X.K G W σ F (f ρ) (fun ds _ H' F' => ∀ vs, Reps X.K F' vs ds → Q ((ks.zip vs).map fun kv => (kV kv.1, kv.2)) H' ∧ vs.length = ks.length) → tPairs trs σ H Q
theorem AP.nil : AP X W pos [] [] [] mNil := ⟨_, pps_nil, rfl, rfl, rfl, fun G σ H F ρ Q S hg => (hg H F S Sm.refl [] .nil).1⟩
theorem AP.cons {x : Str} {j : Nat} {kp : Pos} {e : Expr} {es : List Expr} {keys : List (Option Expr)} {ks : List Key} {fe : M D} {fs : M (List D)} (he : AE X W e fe) (hr : AP X W pos keys es ks fs) :
    AP X W pos (some (.Constant (.str x) j kp) :: keys) (e :: es) (.inr x :: ks) (mCons fe fs) := by
  obtain ⟨t, pe, qe⟩ := he
  obtain ⟨trs, pp, l1, l2, l3, qp⟩ := hr
  refine ⟨_, pps_cons pe_str pe pp, by simp [l1], by simp [l2], by simpa using l3, fun G σ H F ρ Q S hg => ?_⟩
  refine qe G σ H F ρ _ S (hg.bind fun d ρ1 H1 F1 S1 s1 g1 v r1 => ?_)
  refine qp G σ H1 F1 ρ1 _ S1 (g1.bind fun ds ρ2 H2 F2 S2 s2 g2 vs r2 => ?_)
  obtain ⟨q, l⟩ := g2 H2 F2 S2 Sm.refl (v :: vs) (.cons (r1.mono s2) r2)
  exact ⟨q, by simpa using l⟩
def mDict (ks : List Key) (fs : M (List D)) : M D := fun ρ => (fs ρ).bind fun ds ρ => if ds.length = ks.length then .ok (.dct ks ds) ρ else .stuck
theorem AE.dict {keys : List (Option Expr)} {es : List Expr} {ks : List Key} {fs : M (List D)} (hp : AP X W pos keys es ks fs) (hn : ks.Nodup) (h0 : keys ≠ []) (h15 : keys.length ≤ 15) : AE X W (.Dict keys es pos) (mDict ks fs) := by
  obtain ⟨trs, pp, l1, l2, l3, qp⟩ := hp
  refine ⟨_, pe_disp pp l3 (l1.trans l2.symm) h0 h15, fun G σ H F ρ Q S hg p np => ?_⟩
  have S0 : Stt X.K ⟨G.H0, G.F0, G.io, (p, .dK []) :: G.xt⟩ σ (upd H p (.dK [])) F ρ := S.xtNew np
  refine qp _ σ _ F ρ _ S0 ?_
  have hg : Good X.K G W σ F ((fs ρ).bind fun ds ρ => if ds.length = ks.length then .ok (.dct ks ds) ρ else .stuck) (PD X.K Q) := hg
  cases ef : fs ρ with
  | stuck => rw [ef] at hg; exact hg.elim
  | exc x ρ1 =>
    rw [ef] at hg
    exact fun d H' F' S1 s1 x1 => hg d H' (upd F' p (.dK [])) (S1.xtFreeze).1 (s1.tr S1.xtFreeze.2) (by
      rcases x1 with x1 | ⟨dd, vs, e1, e2, e3⟩
      · exact .inl x1
      · exact .inr ⟨dd, vs, e1, S1.xtFreeze.2 _ _ e2, e3.mono S1.xtFreeze.2⟩)
  | ok ds ρ1 =>
    rw [ef] at hg
    have hg : Good X.K G W σ F (if ds.length = ks.length then R.ok (D.dct ks ds) ρ1 else .stuck) (PD X.K Q) := hg
    split at hg
    · rename_i hl
      intro H' F' S1 s1 vs rv
      have lv : vs.length = ks.length := rv.length.trans hl
      refine ⟨⟨(S1.xt (p, .dK []) (List.mem_cons_self ..)).1, ks.zip vs, rfl, by rw [List.length_zip]; omega, ?_⟩, lv⟩
      have em : mergeK [] (ks.zip vs) = ks.zip vs := by
        rw [merge_nodup _ [] (by rw [List.nil_append, List.map_fst_zip (by omega)]; exact hn)]; rfl
      rw [em]
      have S2 := S1.xtUpd (o' := .dK (ks.zip vs))
      have S3 := S2.xtFreeze
      exact hg _ _ S3.1 (s1.tr S3.2) _ (.dct upd_same lv.symm (rv.mono S3.2))
    · exact hg.elim
def keyD : D → Option Key
  | .int i => some (.inl i)
  | .str x => some (.inr x)
  | _ => none
def findK : List Key → List D → Key → Option D
  | k :: ks, d :: ds, x => if k = x then some d else findK ks ds x
  | _, _, _ => none
def dgetD (a b : D) : FR D := match a with
  | .dct ks ds => match keyD b with
    | some k => match findK ks ds k with
      | some d => .ok d
      | none => .stuck
    | none => .stuck
  | _ => .stuck
theorem keyD_v {K : PySem.W.Frag} {H : Hp} {v : V} {d : D} {k : Key} (r : Rep K H v d) (h : keyD d = some k) : v = kV k := by
  cases r <;> cases h <;> rfl
end
end Mr
namespace Mr
open PySem PySem.Spec PyProof.Rows L2
variable [Lam] [Pins]
/-- a pair put into a dict -/
def hasK (k : Key) (ks : List Key) : Bool := ks.any fun q => decide (q = k)
def setKs (k : Key) (ks : List Key) : List Key := if hasK k ks = true then ks else ks ++ [k]
def setVs {α : Type} (k : Key) (y : α) (ks : List Key) (ds : List α) : List α := if hasK k ks = true then ks.zipWith (fun q d => if q = k then y else d) ds else ds ++ [y]
theorem any_mem {k : Key} : ∀ {ks : List Key} {vs : List V}, ks.length = vs.length → ((ks.zip vs).any fun kv => decide (kv.1 = k)) = hasK k ks
  | [], _, _ => rfl
  | _ :: _, [], l => by cases l
  | q :: ks, v :: vs, l => by
    have ih := any_mem (k := k) (ks := ks) (vs := vs) (by simpa using l)
    unfold hasK at *
    rw [List.zip_cons_cons, List.any_cons, List.any_cons, ih]
theorem zip_map_if {k : Key} {v : V} : ∀ {ks : List Key} {vs : List V}, ((ks.zip vs).map fun kv => if kv.1 = k then (kv.1, v) else kv) = ks.zip (ks.zipWith (fun q d => if q = k then v else d) vs)
  | [], _ => rfl
  | _ :: _, [] => rfl
  | q :: ks, u :: vs => by
    rw [List.zip_cons_cons, List.map_cons, zip_map_if, List.zipWith_cons_cons, List.zip_cons_cons]
    congr 1
    by_cases h : q = k
    · rw [if_pos h, if_pos h]
    · rw [if_neg h, if_neg h]
theorem put_zip {k : Key} {v : V} {ks : List Key} {vs : List V} (l : ks.length = vs.length) : putK (ks.zip vs) k v = (setKs k ks).zip (setVs k v ks vs) := by
  unfold putK setKs setVs
  rw [any_mem l]
  by_cases h : hasK k ks = true
  · rw [if_pos h, if_pos h, if_pos h, zip_map_if]
  · rw [if_neg h, if_neg h, if_neg h, List.zip_append l]
    rfl
theorem set_len {α : Type} {k : Key} {v : α} {ks : List Key} {vs : List α} (l : ks.length = vs.length) : (setKs k ks).length = (setVs k v ks vs).length := by
  unfold setKs setVs
  split
  · rw [List.length_zipWith]; omega
  · simp [l]
theorem reps_zipW {K : PySem.W.Frag} {H : Hp} {k : Key} {v : V} {d : D} (r : Rep K H v d) : ∀ {ks : List Key} {vs : List V} {ds : List D}, Reps K H vs ds → Reps K H (ks.zipWith (fun q d => if q = k then v else d) vs) (ks.zipWith (fun q x => if q = k then d else x) ds)
  | [], _, _, _ => .nil
  | _ :: _, _, _, .nil => .nil
  | q :: ks, _, _, .cons a t => by
    rw [List.zipWith_cons_cons, List.zipWith_cons_cons]
    refine .cons ?_ (reps_zipW r t)
    by_cases h : q = k
    · rw [if_pos h, if_pos h]; exact r
    · rw [if_neg h, if_neg h]; exact a
theorem set_reps {K : PySem.W.Frag} {H : Hp} {k : Key} {v : V} {d : D} {ks : List Key} {vs : List V} {ds : List D} (r : Rep K H v d) (t : Reps K H vs ds) : Reps K H (setVs k v ks vs) (setVs k d ks ds) := by
  unfold setVs
  split
  · exact reps_zipW r t
  · exact t.append (.cons r .nil)
section
variable {X : Cx} {W : WX} {ke ve tg iter c : Expr} {ifs : List Expr} {scope : Scope} {own : List (Str × Nat)} {pos : Pos} {it : M (List D)} {t : Tg} {tc : M Bool} {kx vx : M D}
end
end Mr
namespace Mr
open PySem PySem.Spec PyProof.Rows L2
variable [Lam] [Pins]
section
variable {prog : Program} {w : World} {A : Around} {E : Value → Shared → Prop}
end
end Mr
namespace Mr
open PySem PySem.Spec PyProof.Rows L2
variable [Lam] [Pins]
section
variable {X : Cx} {W : WX} {e : Expr} {fe : M D} {p p2 pos q : Pos}
def Dd : D → Option He.Dv
  | .non => some .non
  | .bl b => some (.bl b)
  | .int i => some (.int i)
  | .str x => some (.str x)
  | _ => none
def dvs : List D → Option (List He.Dv)
  | [] => some []
  | d :: ds => match Dd d, dvs ds with
    | some a, some r => some (a :: r)
    | _, _ => none
structure TabF (X : Cx) (x : Str) (ds : List D) : Prop where
  m : X.mg x = some (.ref (He.ga X.K x))
  r : ∀ F : Hp, Rep X.K F (.ref (He.ga X.K x)) (.tup ds)
end
end Mr
namespace Mr
open PySem PySem.Spec PyProof.Rows L2
variable [Lam] [Pins]
/-- the getter of the property f of the class c -/
def pgA (c f : Str) (K : PySem.W.Frag) : Addr := match PySem.W.findIn K (.ref (He.ga K c)) f with
  | some (some (.ref p)) => (match PySem.W.recIn K p "property" with
    | some (.ref g :: _) => g
    | _ => 0)
  | _ => 0
def glA (x : Str) (K : PySem.W.Frag) : Addr := He.ga K x
def meA (c f : Str) (K : PySem.W.Frag) : Addr := He.ma K (He.ga K c) f
/-- the class c has the property f -/
def propB (c f : Str) (K : PySem.W.Frag) : Bool := match PySem.W.findIn K (.ref (He.ga K c)) f with
  | some (some (.ref p)) => He.eqO (PySem.W.specialIn K (.ref p) "__get__") (some (some (.builtin "property.__get__"))) && (decide (PySem.W.takesIn K (.ref p) = some true) && (match PySem.W.recIn K p "property" with
    | some (.ref _ :: _) => true
    | _ => false))
  | _ => false
theorem propB_ok {c f : Str} {K : PySem.W.Frag} (h : propB c f K = true) : ∃ p, PropOf K (He.ga K c) f p (pgA c f K) := by
  unfold propB at h
  split at h
  · rename_i p e
    obtain ⟨h1, h⟩ := He.ba h
    obtain ⟨h2, h3⟩ := He.ba h
    split at h3
    · rename_i g rest e2
      refine ⟨p, e, He.eqO_ok h1, of_decide_eq_true h2, rest, ?_⟩
      unfold pgA
      simp only [e, e2]
    · cases h3
  · cases h
/-- a def: where it stands, its name, qualified name, parameters, body, scope, defaults -/
structure DefM where
  at_ : PySem.W.Frag → Addr
  name : Str
  qual : Str
  params : Arguments
  body : List Stmt
  scope : Scope
  dfl : List He.Dv := []
  cl : List Str := []
def fnM (K : PySem.W.Frag) (a : Addr) : He.FnW := match K.lookup a with
  | some ⟨_, _, .func fd, _⟩ => some (fd.name, fd.qualname, fd.params, fd.body, fd.scope, fd.globals, fd.closure.map fun p => (p.1, 0), fd.builtins)
  | _ => none
def DefM.val (d : DefM) : He.FnW := some (d.name, d.qual, d.params, .stmts d.body, d.scope, mainGlobals, d.cl.map fun x => (x, 0), builtinsNs)
def DefM.dvs (K : PySem.W.Frag) (d : DefM) : List V := d.dfl.map (He.Dv.v K)
def DefM.ok (K : PySem.W.Frag) (d : DefM) : Bool := PySem.W.keepIn K (.ref (d.at_ K)) && (match K.lookup (d.at_ K) with
  | some ⟨_, _, .func fd, _⟩ => PySem.W.codeIn K fd.code d.qual && He.dflB K fd.defaults (d.dvs K)
  | _ => false)
theorem DefM.funD {K : PySem.W.Frag} {d : DefM} (hcl : d.cl = []) (e : fnM K (d.at_ K) = d.val) (c : d.ok K = true) : ∃ fd, FunD K d.name d.qual d.params d.body d.scope (d.dvs K) [] (d.at_ K) fd := by
  obtain ⟨kp, c⟩ := He.ba c
  unfold fnM at e
  split at e
  · rename_i oc od fd osl lk
    rw [lk] at c
    obtain ⟨n1, n2, n3, n4, n5, n6, n7, n8, n9, n10, n11, n12, n13, n14, n15⟩ := fd
    have e2 : (some (n1, n2, n3, n4, n5, n6, n7.map fun p => (p.1, 0), n15) : He.FnW) = d.val := e
    unfold DefM.val at e2
    rw [hcl] at e2
    simp only [Option.some.injEq, Prod.mk.injEq, List.map_nil, List.map_eq_nil_iff] at e2
    obtain ⟨rfl, rfl, rfl, rfl, rfl, rfl, rfl, rfl⟩ := e2
    obtain ⟨k1, k2⟩ := He.ba (show (PySem.W.codeIn K n13 d.qual && He.dflB K n8 (d.dvs K)) = true from c)
    exact ⟨_, ⟨oc, od, n8, n9, n10, n11, n12, n13, n14, osl, rfl, lk, k1, He.dflB_ok k2, He.kwdB_ok (kws := []) rfl⟩, kp⟩
  · cases e
abbrev AlM : Type := Bool × List He.FnW
def obsM (fa : List He.Fa) (tb : List (PySem.W.Frag → Bool)) (fn : List DefM) (K : PySem.W.Frag) : AlM := ((fa.all fun f => f.ok K) && ((tb.all fun t => t K) && fn.all fun d => d.ok K), fn.map fun d => fnM K (d.at_ K))
def valM (fn : List DefM) : AlM := (true, fn.map DefM.val)
def SaysM (fa : List He.Fa) (tb : List (PySem.W.Frag → Bool)) (fn : List DefM) (K : PySem.W.Frag) : Prop := obsM fa tb fn K = valM fn
/-- such a def, what its lambdas are called -/
structure LamM where
  at_ : PySem.W.Frag → Addr
  q : Str
def codP (K : PySem.W.Frag) (f : Addr) : Addr := match codV K f with
  | .ref c => c
  | _ => 0
/-- the table of its code object -/
def tabP (K : PySem.W.Frag) (f : Addr) : Addr := match K.lookup (codP K f) with
  | some ⟨_, _, .fields vs, _⟩ => (match vs.getD 11 .none with
    | .ref P => P
    | _ => 0)
  | _ => 0
def lamT (ls : List LamM) (K : PySem.W.Frag) : List (Addr × Str) := ls.map fun l => (tabP K (l.at_ K), l.q)
/-- the module of the built-in names -/
def bmB (K : PySem.W.Frag) (P : Addr) : Bool := match PySem.W.nsIn K mainGlobals "__builtins__" with
  | some (some (.ref bm)) => !decide (bm = builtinsNs) && (!decide (bm = mainGlobals) && (!decide (bm = P) && (match K.lookup bm with
    | some ⟨.type "module", some d, .plain, _⟩ => decide (d = builtinsNs)
    | _ => false)))
  | _ => false
def lam1 (K : PySem.W.Frag) (l : LamM) : Bool := decide (codV K (l.at_ K) = .ref (codP K (l.at_ K))) && (PySem.W.codeHdIn K (codP K (l.at_ K)) (tabP K (l.at_ K)) && (bmB K (tabP K (l.at_ K)) && (!decide (mainGlobals = tabP K (l.at_ K)) && (K.lookup (tabP K (l.at_ K))).isNone)))
def lamB (ls : List LamM) (K : PySem.W.Frag) : Bool := (ls.all fun l => lam1 K l) && (lamT ls K).all fun p => (lamT ls K).all fun q => !decide (p.1 = q.1) || decide (p.2 = q.2)
def emptyB (g : Addr → Option Obj) (P : Addr) : Bool := match g P with
  | some ⟨.none, none, .fields vs, sl⟩ => vs.isEmpty && sl.isEmpty
  | _ => false
theorem emptyB_ok {h : Heap} {P : Addr} (e : emptyB h.get? P = true) : h.get? P = some { cls := .none, data := .fields #[] } := by
  unfold emptyB at e
  split at e
  · rename_i vs sl q
    obtain ⟨e1, e2⟩ := He.ba e
    rw [q, Array.isEmpty_iff.mp e1, Array.isEmpty_iff.mp e2]
  · cases e
def fragL (ls : List LamM) (g : Addr → Option Obj) (as : List Addr) : PySem.W.Frag :=
  match ls with
  | [] => He.frG g as
  | _ => He.frG g (as.filter fun a => !((lamT ls (He.frG g as)).map (·.1)).contains a)
theorem fragL_in {ls : List LamM} {as : List Addr} {h : Heap} : (fragL ls h.get? as).In h := by
  unfold fragL
  split <;> exact He.frG_in
/-- what is looked at: also the statics of the interpreter -/
def addR : List Addr → Nat → List Addr → Nat × List Addr
  | [], m, out => (m, out)
  | a :: r, m, out => match Nat.beq (Nat.land (Nat.shiftRight m a) 1) 1 with
    | true => addR r m out
    | false => addR r (Nat.lor m (Nat.shiftLeft 1 a)) (a :: out)
def levelR (g : Addr → Option Obj) : List Addr → Nat → List Addr → Nat × List Addr
  | [], m, out => (m, out)
  | a :: fr, m, out => match g a with
    | some o => (match addR (He.refsD o) m out with
      | (m', out') => levelR g fr m' out')
    | none => levelR g fr m out
/-- what is reached from some objects in so many steps (what was seen: the bits of a number) -/
def reachR (g : Addr → Option Obj) : Nat → List Addr → Nat → List Addr → List Addr
  | 0, fr, _, acc => acc ++ fr
  | n + 1, fr, m, acc => match levelR g fr m [] with
    | (m', new) => reachR g n new m' (acc ++ fr)
def asM (g : Addr → Option Obj) (n : Nat) : List Addr := cStatics :: sysModules :: reachR g n [mainGlobals] (Nat.shiftLeft 1 mainGlobals) []
/-- written dicts: their names, their keys -/
abbrev WdL : Type := List (Str × List Str)
abbrev AlX : Type := AlM × List (Option (List (Option (Str × Int))))
def obsMG (n : Nat) (fa : List He.Fa) (tb : List (PySem.W.Frag → Bool)) (fn : List DefM) (ls : List LamM) (wd : WdL) (g : Addr → Option Obj) : AlX :=
  (((obsM fa tb fn (fragL ls g (asM g n))).1 && (lamB ls (fragL ls g (asM g n)) && (lamT ls (fragL ls g (asM g n))).all fun p => emptyB g p.1), (obsM fa tb fn (fragL ls g (asM g n))).2), wd.map fun d => He.dicW (fragL ls g (asM g n)) (He.ga (fragL ls g (asM g n)) d.1))
/-- what is known of the written dicts -/
def WdAt (wd : WdL) (w : World) (K : PySem.W.Frag) : Prop := ∀ d ∈ wd, He.dicW K (He.ga K d.1) = some (He.keysIn w.params d.2)
/-- what is known of the lambdas' tables -/
def LamsAt (ls : List LamM) (K : PySem.W.Frag) (h : Heap) : Prop := lamB ls K = true ∧ ∀ p ∈ lamT ls K, h.get? p.1 = some { cls := .none, data := .fields #[] }
def hookM (n : Nat) (fa : List He.Fa) (tb : List (PySem.W.Frag → Bool)) (fn : List DefM) (ls : List LamM) (wd : WdL) : PySem.W.Hook where
  α := AlX
  obs := fun s => obsMG n fa tb fn ls wd s.heap.get?
  val := fun w => (valM fn, wd.map fun d => some (He.keysIn w.params d.2))
  says := fun w h => ∃ K : PySem.W.Frag, K.In h ∧ SaysM fa tb fn K ∧ LamsAt ls K h ∧ WdAt wd w K
  of := fun w s e => by
    have e : obsMG n fa tb fn ls wd s.heap.get? = (valM fn, wd.map fun d => some (He.keysIn w.params d.2)) := e
    unfold obsMG valM at e
    obtain ⟨e, h5⟩ := Prod.mk.injEq .. ▸ e
    obtain ⟨h1, h2⟩ := Prod.mk.injEq .. ▸ e
    obtain ⟨h1, h3⟩ := He.ba h1
    obtain ⟨h3, h4⟩ := He.ba h3
    exact ⟨fragL ls s.heap.get? (asM s.heap.get? n), fragL_in, Prod.ext h1 h2, ⟨h3, fun p hp => emptyB_ok (List.all_eq_true.mp h4 p hp)⟩, fun d hd => List.map_inj_left.mp h5 d hd⟩
  keeps := fun _ _ _ ⟨K, hK, c, ⟨l1, l2⟩, d⟩ k => ⟨K, PySem.W.Frag.In.keeps hK k, c, ⟨l1, fun p hp => k _ _ (l2 p hp)⟩, d⟩
theorem obsMG_eq {n : Nat} {fa : List He.Fa} {tb : List (PySem.W.Frag → Bool)} {fn : List DefM} {ls : List LamM} {wd : WdL} {g : Addr → Option Obj} {s : Shared} (h : ∀ a, g a = s.heap.get? a) : obsMG n fa tb fn ls wd g = (hookM n fa tb fn ls wd).obs s := by
  have e : g = s.heap.get? := funext h
  rw [e] <;> rfl
/-- what the making of a lambda in the def at f asks -/
structure LamF (K : PySem.W.Frag) (mg : Str → Option Value) (f : Addr) (q : Str) : Prop where
  ex : ∃ c P, codV K f = .ref c ∧ PySem.W.codeHdIn K c P = true ∧ (P, q) ∈ Lam.T K ∧ (∀ p ∈ Lam.T K, p.1 = P → p.2 = q) ∧ mainGlobals ≠ P ∧ ∀ base : Heap, K.In base → base.BuiltinsAt mg P
section
variable {fa : List He.Fa} {tb : List (PySem.W.Frag → Bool)} {fn : List DefM} {K : PySem.W.Frag}
theorem SaysM.parts (c : SaysM fa tb fn K) : (fa.all fun f => f.ok K) = true ∧ (tb.all fun t => t K) = true ∧ (fn.all fun d => d.ok K) = true := by
  obtain ⟨h1, h2⟩ := He.ba (show ((fa.all fun f => f.ok K) && ((tb.all fun t => t K) && fn.all fun d => d.ok K)) = true from congrArg (fun z : AlM => z.1) c)
  exact ⟨h1, He.ba h2⟩
theorem SaysM.fact (c : SaysM fa tb fn K) (i : Nat) {f : He.Fa} (h : fa[i]? = some f := by rfl) : f.ok K = true := List.all_eq_true.mp c.parts.1 f (List.mem_of_getElem? h)
theorem SaysM.test (c : SaysM fa tb fn K) (i : Nat) {t : PySem.W.Frag → Bool} (h : tb[i]? = some t := by rfl) : t K = true := List.all_eq_true.mp c.parts.2.1 t (List.mem_of_getElem? h)
theorem SaysM.def_ (c : SaysM fa tb fn K) (i : Nat) {d : DefM} (h : fn[i]? = some d := by rfl) (hcl : d.cl = [] := by rfl) : ∃ fd, FunD K d.name d.qual d.params d.body d.scope (d.dvs K) [] (d.at_ K) fd := by
  have e : fn.map (fun d => fnM K (d.at_ K)) = fn.map DefM.val := congrArg (fun z : AlM => z.2) c
  have e2 : (fn.map fun d => fnM K (d.at_ K))[i]? = (fn.map DefM.val)[i]? := by rw [e]
  rw [List.getElem?_map, List.getElem?_map, h] at e2
  exact DefM.funD hcl (Option.some.inj e2) (List.all_eq_true.mp c.parts.2.2 d (List.mem_of_getElem? h))
end
/-- a law's end: the function that its def computes answers true at every script -/
theorem walk_endM {l : PySem.W.OpenLaw} {n k dep : Nat} {q : Program} {loose : List Str} {XP : (Str → Option Value) → Heap → Prop} {fas : List He.Fa} {tbs : List (PySem.W.Frag → Bool)} {fns : List DefM} {ls : List LamM} {wd : WdL} {d : DefRec} {x : Str} {m : List D → FR D}
    (hT : ∀ K, Lam.T K = lamT ls K) (hn : l.most = some n) (hn2 : n ≤ sizeLine) (hdf : d.params.defaults = []) (hr : RoomG k callerA)
    (F : ∀ (w : World) (K : PySem.W.Frag) (mg : Str → Option Value) (h : Heap) (fa : Addr), K.In h → h.Ns mainGlobals mg → SaysM fas tbs fns K → lamB ls K = true → WdAt wd w K → mg d.name = some (.ref fa) →
      ∃ fd : FuncData, (∀ (s : Shared) (u : Value), BindsTo s fd ⟨[u], []⟩ [(x, u)]) ∧ ∀ base : Heap, FnG l.prog w K mg base k fa fd [x] (PSp K 1 m))
    (hm : ∀ ns : List Int, ns.length ≤ n → (∀ z ∈ ns, Builtin.Int.intBits z ≤ 1048576) → m [.frz (ns.map .int)] = .ok (.bl true)) :
    PySem.W.WalkO q loose XP (hookM dep fas tbs fns ls wd).says l.row.toRowW d [] (fun f vs => PySem.call f vs) := by
  refine Att.attach_callB hn hdf fun w s₀ s₁ mg mb fa o pm cd doc a vs ns G Y ho hd hcd hmg hobj hints hlen hbits hg => ?_
  obtain ⟨K, KX, c, ⟨l1, l2⟩, dW⟩ := Y
  obtain ⟨fd, hb, hF⟩ := F w K mg _ fa KX G.T.g c l1 dW hmg
  refine law_callG ((Lam.T K).map (·.1)) (fun P hP => ?_) KX G.T.g G.T.b G.T.builtins G.T.nolimit hg hobj hints (Nat.le_trans hlen hn2) hr hF hb (fun H hH hS => law_psp hH hS (hm ns hlen hbits)) fun H e s' hc => ?_
  · obtain ⟨p, hp, rfl⟩ := List.mem_map.mp hP
    rw [hT] at hp
    have g := l2 p hp
    obtain ⟨y, hy, rfl⟩ := List.mem_map.mp hp
    obtain ⟨_, h2⟩ := He.ba (List.all_eq_true.mp (He.ba l1).1 y hy)
    obtain ⟨h2, h3⟩ := He.ba h2
    obtain ⟨_, h4⟩ := He.ba h3
    obtain ⟨_, h5⟩ := He.ba h4
    exact ⟨⟨_, h2⟩, Option.isNone_iff_eq_none.mp h5, g⟩
  · obtain ⟨_, _, _, _, _, _, _, _, _, _, _, _, h⟩ := hc
    exact h.elim
end Mr
namespace Mr
open PySem PySem.Spec PyProof.Rows L2
variable [Lam] [Pins]
/-- a value, a new list -/
inductive MV where
  | v (d : D)
  | n (ds : List D)
inductive MRep (K : PySem.W.Frag) (F : Hp) : List (Addr × HO) → List V → List MV → Prop where
  | nil : MRep K F [] [] []
  | v {xs : List (Addr × HO)} {vs : List V} {ms : List MV} {u : V} {d : D} : Rep K F u d → MRep K F xs vs ms → MRep K F xs (u :: vs) (.v d :: ms)
  | n {xs : List (Addr × HO)} {vs ws : List V} {ms : List MV} {a : Addr} {ds : List D} : Reps K F ws ds → MRep K F xs vs ms → MRep K F ((a, .lst ws) :: xs) (.ref a :: vs) (.n ds :: ms)
theorem Stt.xtPerm {K : PySem.W.Frag} {H0 F0 : Hp} {io : List (Nat × Addr)} {xt xt' : List (Addr × HO)} {σ : St} {H F : Hp} {ρ : Ro} (S : Stt K ⟨H0, F0, io, xt⟩ σ H F ρ) (p : List.Perm xt xt') : Stt K ⟨H0, F0, io, xt'⟩ σ H F ρ :=
  ⟨S.sub, S.ft, S.tb, S.same, S.ext, S.new, S.len, S.at_, S.dis, S.fresh, S.io, fun q hq => S.xt q (p.mem_iff.mpr hq), fun q hq => S.xx q (p.mem_iff.mpr hq), (p.map _).nodup_iff.mp S.xtd, S.pin, S.pf⟩
section
variable {X : Cx} {W : WX} {e : Expr} {es : List Expr} {pos : Pos}
def AM (X : Cx) (W : WX) (es : List Expr) (f : M (List MV)) : Prop := ∃ t, PA X es t ∧ ∀ G σ H F ρ Q, Stt X.K G σ H F ρ →
  Good X.K G W σ F (f ρ) (fun ms ρ' H' F' => ∀ vs xs H2, Stt X.K ⟨G.H0, G.F0, G.io, xs ++ G.xt⟩ σ H2 F' ρ' → MRep X.K F' xs vs ms → Q vs H2) → t σ H Q
def mMV (f : M D) (r : M (List MV)) : M (List MV) := fun ρ => (f ρ).bind fun d ρ => (r ρ).bind fun ms ρ => .ok (.v d :: ms) ρ
def mMN (f : M (List D)) (r : M (List MV)) : M (List MV) := fun ρ => (f ρ).bind fun ds ρ => (r ρ).bind fun ms ρ => .ok (.n ds :: ms) ρ
def mMNil : M (List MV) := fun ρ => .ok [] ρ
theorem MRep.mono {K : PySem.W.Frag} {F F' : Hp} (s : Sm F F') : ∀ {xs : List (Addr × HO)} {vs : List V} {ms : List MV}, MRep K F xs vs ms → MRep K F' xs vs ms
  | _, _, _, .nil => .nil
  | _, _, _, .v r t => .v (r.mono s) (t.mono s)
  | _, _, _, .n r t => .n (r.mono s) (t.mono s)
theorem AM.nil : AM X W [] mMNil := ⟨_, pa_nil, fun G σ H F ρ Q S hg => hg H F S Sm.refl [] [] H S .nil⟩
theorem AM.v {fe : M D} {fs : M (List MV)} (he : AE X W e fe) (hr : AM X W es fs) (hs : starEach (e :: es) X.env = (false, eval e X.env) :: starEach es X.env := by rfl) : AM X W (e :: es) (mMV fe fs) := by
  obtain ⟨t, pe, qe⟩ := he
  obtain ⟨u, pr, qr⟩ := hr
  refine ⟨_, pa_cons pe pr hs, fun G σ H F ρ Q S hg => qe G σ H F ρ _ S (hg.bind fun d ρ1 H1 F1 S1 s1 g1 v r1 => qr G σ H1 F1 ρ1 _ S1 (g1.bind fun ms ρ2 H2 F2 S2 s2 g2 vs xs H3 S3 rm => ?_))⟩
  exact g2 H2 F2 S2 Sm.refl _ _ H3 S3 (.v (r1.mono s2) rm)
theorem AM.n {fe : M (List D)} {fs : M (List MV)} (he : AN X W e fe) (hr : AM X W es fs) (hs : starEach (e :: es) X.env = (false, eval e X.env) :: starEach es X.env := by rfl) : AM X W (e :: es) (mMN fe fs) := by
  obtain ⟨t, pe, qe⟩ := he
  obtain ⟨u, pr, qr⟩ := hr
  refine ⟨_, pa_cons pe pr hs, fun G σ H F ρ Q S hg => qe G σ H F ρ _ S (hg.bind fun ds ρ1 H1 F1 S1 s1 g1 a ws H2 S2 r => ?_)⟩
  have key : Good X.K ⟨G.H0, G.F0, G.io, (a, .lst ws) :: G.xt⟩ W σ F1 (fs ρ1) (fun ms ρ' H' F' => ∀ vs xs H2, Stt X.K ⟨G.H0, G.F0, G.io, xs ++ (a, .lst ws) :: G.xt⟩ σ H2 F' ρ' → MRep X.K F' xs vs ms → Q (.ref a :: vs) H2) := by
    have g1 : Good X.K G W σ F1 ((fs ρ1).bind fun ms ρ => .ok (MV.n ds :: ms) ρ) _ := g1
    cases ef : fs ρ1 with
    | ok ms ρ2 =>
      rw [ef] at g1
      refine fun H' F' S' s' vs xs H3 S3 rm => ?_
      have S4 : Stt X.K ⟨G.H0, G.F0, G.io, ((a, .lst ws) :: xs) ++ G.xt⟩ σ H3 F' ρ2 := S3.xtPerm (by
        rw [List.cons_append]
        exact List.perm_middle)
      have drop : ∀ (l : List (Addr × HO)), Stt X.K ⟨G.H0, G.F0, G.io, l ++ G.xt⟩ σ H3 F' ρ2 → Stt X.K G σ H3 F' ρ2 := fun l => by
        induction l with
        | nil => exact id
        | cons q l ih => exact fun S => ih S.xtDrop
      exact g1 H3 F' (drop _ S4) s' _ _ H3 S4 (.n (r.mono s') rm)
    | exc x ρ2 =>
      rw [ef] at g1
      exact fun d H' F' S' s' xa => g1 d H' F' S'.xtDrop s' xa
    | stuck => rw [ef] at g1; exact g1.elim
  exact qr ⟨G.H0, G.F0, G.io, (a, .lst ws) :: G.xt⟩ σ H2 F1 ρ1 _ S2 key
def putMs : List Nat → List MV → Ro → R Fl
  | [], [], ρ => .ok .nx ρ
  | i :: is, .v d :: ms, ρ => if (ρ.getD i .un).isIo = true then .stuck else putMs is ms (ρ.set i (.val d))
  | i :: is, .n ds :: ms, ρ => if (ρ.getD i .un).isIo = true then .stuck else putMs is ms (ρ.set i (.own false ds))
  | _, _, _ => .stuck
def setVsσ : List Nat → List V → St → St
  | i :: is, v :: vs, σ => setVsσ is vs (σ.set i (some v))
  | _, _, σ => σ
theorem putMs_good {K : PySem.W.Frag} {H0 F0 H F : Hp} {io : List (Nat × Addr)} {xt : List (Addr × HO)} {Dn : Ends} {ms : List MV} {vs : List V} {xs : List (Addr × HO)} (rm : MRep K F xs vs ms) : ∀ {is : List Nat} {σ : L2.St} {ρ : Ro}, Stt K ⟨H0, F0, io, xs ++ xt⟩ σ H F ρ →
    GoodS K ⟨H0, F0, io, xt⟩ W F (putMs is ms ρ) Dn → vs.length = is.length ∧ Dn.nx (setVsσ is vs σ) H := by
  induction rm with
  | nil =>
    intro is σ ρ S hg
    cases is with
    | nil => exact ⟨rfl, hg σ H F S Sm.refl⟩
    | cons i is => exact hg.elim
  | v r t ih =>
    intro is σ ρ S hg
    cases is with
    | nil => exact hg.elim
    | cons i is =>
      unfold putMs at hg
      split at hg
      · exact hg.elim
      · rename_i h
        obtain ⟨l, q⟩ := ih (S.setVal (i := i) (by simpa using h) r) hg
        exact ⟨by rw [List.length_cons, List.length_cons, l], q⟩
  | n r t ih =>
    rename_i xs1 vs1 ws ms1 a ds
    intro is σ ρ S hg
    cases is with
    | nil => exact hg.elim
    | cons i is =>
      unfold putMs at hg
      split at hg
      · exact hg.elim
      · rename_i h
        obtain ⟨e1, e2, _, _⟩ := S.xt (a, .lst ws) (List.mem_cons_self ..)
        have S2 : Stt K ⟨H0, F0, io, xs1 ++ xt⟩ (σ.set i (some (V.ref a))) H F (ρ.set i (.own false ds)) := Stt.xtSlot (a := a) (o := .lst ws) (xt := xs1 ++ xt) S (by simpa using h) ⟨a, ws, rfl, e1, e2, r⟩ rfl
        obtain ⟨l, q⟩ := ih S2 hg
        exact ⟨by rw [List.length_cons, List.length_cons, l], q⟩
def xParM (is : List Nat) (fs : M (List MV)) : M Fl := fun ρ => (fs ρ).bind fun ms ρ => putMs is ms ρ
theorem AM.fin {t : TA} {is : List Nat} {fs : M (List MV)} (q : ∀ G σ H F ρ Q, Stt X.K G σ H F ρ → Good X.K G W σ F (fs ρ) (fun ms ρ' H' F' => ∀ vs xs H2, Stt X.K ⟨G.H0, G.F0, G.io, xs ++ G.xt⟩ σ H2 F' ρ' → MRep X.K F' xs vs ms → Q vs H2) → t σ H Q)
    {G : Ent} {σ : L2.St} {H F : Hp} {ρ : Ro} {Dn : Ends} (S : Stt X.K G σ H F ρ) (hg : GoodS X.K G W F (xParM is fs ρ) Dn) : t σ H fun vs H1 => vs.length = is.length ∧ Dn.nx (setVsσ is vs σ) H1 := by
  refine q G σ H F ρ _ S ?_
  have hg : GoodS X.K G W F ((fs ρ).bind fun ms ρ => putMs is ms ρ) Dn := hg
  cases ef : fs ρ with
  | ok ms ρ1 =>
    rw [ef] at hg
    exact fun H' F' S' s' vs xs H2 S2 rm => putMs_good rm S2 (GoodS.mono s' hg)
  | exc x ρ1 =>
    rw [ef] at hg
    exact fun d H' F' S' s' xa => hg d σ H' F' S' s' xa
  | stuck => rw [ef] at hg; exact hg.elim
/-- raise C("..") -/
def xRaise (c : Str) : M Fl := fun ρ => .exc ⟨.own c, []⟩ ρ
/-- .. not covered -/
def xRaiseX (c : Str) (fs : M (List D)) : M Fl := fun _ => .stuck
structure ExcF (K : PySem.W.Frag) (c : Str) : Prop where
  q : PySem.W.excIn K (He.ga K c) He.veBase "ValueError.__new__" = true
  k : PySem.W.keepIn K (.ref (He.ga K c)) = true
  s : PySem.W.subIn K (.ref (He.ga K c)) (.type "BaseException") = some true
  t : PySem.W.typeIn K (.ref (He.ga K c)) = some (.type "type")
section
variable {X : Cx} {W : WX}
theorem AS.raise {c m : Str} {j : Nat} {p p2 pos pos' : Pos} (hc : X.calm = true) (tk : L2N.Takes X W) (E : ExcF X.K c) (mc : X.mg c = some (.ref (He.ga X.K c))) (gc : Gl X c) (hdb : (c == ("__debug__" : Str)) = false := by decide) :
    AS X W (.Raise (some (.Call (.Name c p) [.Constant (.str m) j p2] [] pos)) none pos') (xRaise c) := by
  refine ⟨_, L2N.ps_raise hc tk (L2N.pmk_own PySem.F.excBase_ValueError E.q mc E.k (raises_own E.s E.t) gc hdb), fun G σ H F ρ Dn S hg => ?_⟩
  exact hg none σ H F S Sm.refl (.inl ⟨rfl, rfl⟩)
end
theorem exc_of {K : PySem.W.Frag} {c : Str} (h : (He.Fa.exc c).ok K = true) : ExcF K c := let ⟨a, b, d, e⟩ := He.exc_ok h; ⟨a, b, d, e⟩
end
end Mr
namespace Mr
open PySem PySem.Spec PyProof.Rows L2
variable [Lam] [Pins]
section
variable {X : Cx} {W : WX} {k n : Nat} {f : Addr} {fd : FuncData} {ps : List Str} {x y : Str} {p py pos : Pos} {e o : Expr} {fe : M D} {fs : M (List D)} {mi : SV → List D → IR}
def IA (X : Cx) (W : WX) (op : Operator) (g : D → D → FR D) : Prop := OA X W (inplaceOp op) g
def mulSD : D → D → FR D
  | .int i, .int j => if ((-18446744073709551616 < i ∧ i < 18446744073709551616) ∨ (-18446744073709551616 < j ∧ j < 18446744073709551616)) then .ok (.int (i * j)) else .stuck
  | _, _ => .stuck
def addSD : D → D → FR D
  | .int i, .int j => .ok (.int (i + j))
  | .str a, .str b => if a.length + b.length ≤ sizeLine then .ok (.str (a ++ b)) else .stuck
  | _, _ => .stuck
theorem IA.add : IA X W .Add addSD := by
  refine ⟨_, OpR.or iop_add iop_add_str, fun G σ H F ρ x y dx dy Q S rx ry hg => ?_⟩
  unfold addSD at hg
  split at hg
  · cases rx; cases ry
    exact .inl ⟨_, _, rfl, rfl, hg H F S Sm.refl _ (.int _)⟩
  · cases rx; cases ry
    split at hg
    · rename_i h
      exact .inr ⟨_, _, rfl, rfl, h, hg H F S Sm.refl _ (.str _)⟩
    · exact hg.elim
  · exact hg.elim
theorem IA.sub : IA X W .Sub subD := by
  refine ⟨_, iop_sub, fun G σ H F ρ x y dx dy Q S rx ry hg => ?_⟩
  unfold subD at hg
  split at hg
  · cases rx; cases ry
    exact ⟨_, _, rfl, rfl, hg H F S Sm.refl _ (.int _)⟩
  · exact hg.elim
theorem IA.mul : IA X W .Mult mulSD := by
  refine ⟨_, iop_mul, fun G σ H F ρ x y dx dy Q S rx ry hg => ?_⟩
  unfold mulSD at hg
  split at hg
  · cases rx; cases ry
    split at hg
    · rename_i h
      refine ⟨_, _, rfl, rfl, ?_, hg H F S Sm.refl _ (.int _)⟩
      rcases h with h | h
      · exact .inl ⟨by omega, by omega⟩
      · exact .inr ⟨by omega, by omega⟩
    · exact hg.elim
  · exact hg.elim
end
end Mr
namespace Mr
open PySem PySem.Spec PyProof.Rows L2
variable [Lam] [Pins]
inductive Kd where
  | l | t
section
variable {prog : Program} {w : World} {A : Around} {kd : Kd}
end
section
variable {X : Cx} {W : WX}
def zipMD : List D → FR (List D)
  | [a, b] => match seqD a, seqD b with
    | some xs, some ys => .ok (xs.zipWith pairD ys)
    | _, _ => .stuck
  | _ => .stuck
end
end Mr
namespace Mr
open PySem PySem.Spec PyProof.Rows L2
variable [Lam] [Pins]
section
variable {X : Cx} {W : WX} {pos : Pos}
end
instance (priority := low) lam0 : Lam := ⟨fun _ => []⟩
end Mr
namespace Mr
open PySem PySem.Spec PyProof.Rows L2
section
variable [Lam] [Pins]
variable {X : Cx} {W : WX} {pos : Pos}
/-- {} -/
theorem AE.dict0 : AE X W (.Dict [] [] pos) (mC (.dct [] [])) := by
  refine ⟨_, pe_dnewK, fun G σ H F ρ Q S hg p np => ?_⟩
  exact hg _ _ (S.alloc np) (S.allocF np) _ (.dct (ks := []) (vs := []) upd_same rfl .nil)
/-- a list of one's own handed to a def that never looks at it -/
def mAny (j : Nat) : M D := fun ρ => match ρ.getD j .un with
  | .own _ _ => .ok .any ρ
  | _ => .stuck
theorem AE.any {j : Nat} {y : Str} (h : PE X (.Name y pos) (tVar j)) : AE X W (.Name y pos) (mAny j) := by
  refine ⟨_, h, fun G σ H F ρ Q S hg => ?_⟩
  unfold mAny at hg
  split at hg
  · rename_i p xs e
    obtain ⟨a, vs, e1, _⟩ := own_at S e
    exact ⟨_, e1, hg H F S Sm.refl _ (.any _ fun z => by cases z)⟩
  · exact hg.elim
structure WdF (w : World) (K : PySem.W.Frag) (mg : Str → Option Value) (x : Str) (kvs : List (Str × Option Str)) : Prop where
  m : mg x = some (.ref (He.ga K x))
  d : ∃ es n, KDict K w (He.ga K x) es n
  at_ : ∀ kv ∈ kvs, ∃ r, PySem.W.nsIn K (He.ga K x) kv.1 = some r ∧ r.isSome = kv.2.isSome ∧ ∀ y, kv.2 = some y → ∃ t, r = some (.str y t)
variable {e : Expr} {fe : M D} {x : Str} {kvs : List (Str × Option Str)} {p : Pos}
def strD : List D → FR D
  | [.int i] => if i.natAbs.log2 < 1920 then .ok (.str (Str.ofString (toString i))) else .stuck
  | _ => .stuck
theorem CA.str : CA X W (.type "str") strD := by
  refine ⟨_, call_str_int, fun G σ H F ρ vs ds Q S r hg => ?_⟩
  unfold strD at hg
  split at hg
  · split at hg
    · rename_i h
      obtain ⟨v, rfl, rv⟩ := reps1 r
      cases rv
      exact ⟨_, rfl, h, hg H F S Sm.refl _ (.str _)⟩
    · exact hg.elim
  · exact hg.elim
def txtsD : List D → Option (List Str)
  | [] => some []
  | .str x :: r => (txtsD r).map (x :: ·)
  | _ :: _ => none
theorem txtsD_reps {K : PySem.W.Frag} {H : Hp} : ∀ {vs : List V} {ds : List D} {ys : List Str}, Reps K H vs ds → txtsD ds = some ys → vs = ys.map V.str
  | _, _, _, .nil, h => by cases h; rfl
  | _, _, _, .cons r t, h => by
    cases r with
    | str x =>
      unfold txtsD at h
      cases e : txtsD _ with
      | none => rw [e] at h; cases h
      | some zs =>
        rw [e] at h
        cases h
        rw [txtsD_reps t e]; rfl
    | _ => cases h
def joinOf (a : Str) (ds : List D) : FR D := match txtsD ds with
  | some ys => if (ys.map (·.length)).sum + ys.length * a.length ≤ 16777216 then .ok (.str (Txt.join a ys)) else .stuck
  | none => .stuck
def joinD (a : Str) : D → FR D
  | .lst ds => joinOf a ds
  | .tup ds => joinOf a ds
  | _ => .stuck
def mJoin (fo fe : M D) : M D := fun ρ => (fo ρ).bind fun d ρ => match d with
  | .str a => (fe ρ).bind fun x ρ => (joinD a x).lift ρ
  | _ => .stuck
theorem AE.join {o : Expr} {fo : M D} {apos : Pos} (ho : AE X W o fo) (he : AE X W e fe) (hs : starEach [e] X.env = [(false, eval e X.env)] := by rfl) (hbase : attributeBase o "join" X.env (eval o X.env) = eval o X.env := by rfl) (hline : (apos.endLine == pos.line) = true := by rfl) :
    AE X W (.Call (.Attribute o "join" apos) [e] [] pos) (mJoin fo fe) := by
  obtain ⟨to, po, qo⟩ := ho
  obtain ⟨te, pe, qe⟩ := he
  refine ⟨_, pe_join po pe hs hbase hline, fun G σ H F ρ Q S hg => qo G σ H F ρ _ S (hg.bind fun d ρ1 H1 F1 S1 s1 g1 v r1 => ?_)⟩
  cases r1 with
  | str a =>
    refine ⟨⟨a, rfl⟩, qe G σ H1 F1 ρ1 _ S1 (g1.bind fun d2 ρ2 H2 F2 S2 s2 g2 u r2 => ?_)⟩
    have fin : ∀ {ds : List D} {vs : List V} {q : Addr}, u = .ref q → (SqL X.K H2 q vs ∨ SqT X.K H2 q vs) → Reps X.K F2 vs ds → joinD a d2 = joinOf a ds → ∃ a' p, ∃ ys : List Str, V.str a = .str a' ∧ [u] = [.ref p] ∧ (SqL X.K H2 p (ys.map V.str) ∨ SqT X.K H2 p (ys.map V.str)) ∧ (ys.map (·.length)).sum + ys.length * a'.length ≤ 16777216 ∧ Q (.str (Txt.join a' ys)) H2 := fun {ds vs q} eu hs rs ej => by
      rw [ej] at g2
      unfold joinOf at g2
      cases es : txtsD ds with
      | none => simp only [es] at g2; exact g2.elim
      | some ys =>
        simp only [es] at g2
        have ev := txtsD_reps rs es
        subst ev eu
        split at g2
        · rename_i hz
          exact ⟨a, q, ys, rfl, rfl, hs, hz, g2 H2 F2 S2 Sm.refl _ (.str _)⟩
        · exact g2.elim
    cases r2 with
    | lst hx rx => exact fin rfl (.inl (.of (S2.sub _ _ hx))) rx rfl
    | tup hx rx hnq => exact fin rfl (.inr (SqTm S2.sub hx)) rx rfl
    | _ => exact g2.elim
  | _ => exact g1.elim
end
end Mr
namespace Mr
open PySem PySem.Spec PyProof.Rows L2
/-- a clause: its class, its name's slot, its suite -/
abbrev ClW : Type := Value × Option Nat × (Addr → Value → Option Addr → TS)
/-- where a suite that has a name ends -/
def offEnds (i : Nat) (D : Ends) : Ends where
  nx := fun τ H => D.nx (τ.set i none) H
  rt := D.rt
  bk := fun τ H => D.bk (τ.set i none) H
  ct := fun τ H => D.ct (τ.set i none) H
/-- what the clauses ask of an exception -/
def askM (K : PySem.W.Frag) (Wo : WX) (D : Ends) : List ClW → WX
  | [] => Wo
  | (c, none, ts) :: r => fun k d τ H => ∃ b, PySem.W.exmOne K k c = some b ∧ (b = true → ∀ a, H a = none → ts a k d D τ H) ∧ (b = false → askM K Wo D r k d τ H)
  | (c, some i, ts) :: r => fun k d τ H => ∃ b, PySem.W.exmOne K k c = some b ∧ (b = true → ∀ a, H a = none → ts a k d (offEnds i D) (τ.set i (some (.ref a))) H) ∧ (b = false → askM K Wo D r k d τ H)
/-- a suite in its context -/
def SuiteOk (X : Cx) (ss : List Stmt) (ts : Addr → Value → Option Addr → TS) : Prop := ∀ (a : Addr) (oe : Obj) (k : Value) (d : Option Addr) (pn : List (Addr × Obj)), L2N.Zn k d oe → (∃ vs, oe.data = .fields vs) → PSs (X.suite a ((a, oe) :: pn)) ss (ts a k d)
inductive ClsM (X : Cx) : List ExceptHandler → List ClW → Prop
  | nil : ClsM X [] []
  | one {x : Str} {c : Value} {ts : Addr → Value → Option Addr → TS} {s0 : Stmt} {ss : List Stmt} {np hp : Pos} {hs : List ExceptHandler} {l : List ClW} (hc : Names X x c) (ok : SuiteOk X (s0 :: ss) ts) (r : ClsM X hs l) : ClsM X (.ExceptHandler (some (.Name x np)) none (s0 :: ss) hp :: hs) ((c, none, ts) :: l)
  | named {x n : Str} {c : Value} {i : Nat} {ts : Addr → Value → Option Addr → TS} {s0 : Stmt} {ss : List Stmt} {np hp : Pos} {hs : List ExceptHandler} {l : List ClW} (hN : X.N.Nodup) (hi : X.N[i]? = some n) (hl : X.env.kindOf n = some .local) (hc : Names X x c) (ok : SuiteOk X (s0 :: ss) ts) (r : ClsM X hs l) :
      ClsM X (.ExceptHandler (some (.Name x np)) (some n) (s0 :: ss) hp :: hs) ((c, some i, ts) :: l)
section
variable {X : Cx} {body : List Stmt} {e0 : ExceptHandler} {es : List ExceptHandler} {l : List ClW} {pos : Pos} {tb : WX → TS} {Wo : WX}
/-- the name of a clause's class, read -/
theorem cls_read {x : Str} {c : Value} {np : Pos} {pins : List (Addr × Obj)} {a : Addr} {oe : Obj} {τ : L2.St} {H : Hp} {s : Shared} {Q E : Value → Shared → Prop} (hc : Names X x c) (I : Inv (X.suite a ((a, oe) :: (X.pn ++ pins))) [] τ H s) (q : Q c s) :
    wpAny (model X.prog X.w) (X.A.mark (some (.ref a))) (eval (.Name x np) X.env) Q E s := by
  obtain ⟨g, nd, k | ⟨k, v, ne⟩⟩ := hc
  · exact ld_glob (X := X.suite a ((a, oe) :: (X.pn ++ pins))) I g k q nd
  · exact ld_blt (X := X.suite a ((a, oe) :: (X.pn ++ pins))) I g k v q ne nd
theorem ps_tryM (hst : X.stack = X.env :: X.outer) (hfl : X.env.frame = some X.env.locals) (tk : L2N.Takes X Wo)
    (hb : ∀ (W : WX) (pn : List (Addr × Obj)) (xe : Value → Shared → Prop), L2N.Takes (X.tr pn xe) W → PassesOwn (model X.prog X.w) X.A X.env xe → PSs (X.tr pn xe) body (tb W)) (hh : ClsM X (e0 :: es) l) :
    PS X (.Try body (e0 :: es) [] [] pos) (fun D τ H => tb (askM X.K Wo D l) D τ H) := by
  refine ⟨fun pins s τ H D I h => wpAny_Try_except ?_⟩
  have okX := I.ok
  have hA : X.A.frames = some (X.env :: X.outer) := okX.frames.trans (congrArg some hst)
  let xe : Value → Shared → Prop := fun u t => wpAny (model X.prog X.w) X.A (noteFrame u X.env) (fun _ t1 => wpAny (model X.prog X.w) X.A (setFlight u none) (fun _ t2 => wpAny (model X.prog X.w) X.A (handleBy u X.env (e0 :: es)) (SP X pins D) X.xe t2) X.xe t1) X.xe t
  have tkB : L2N.Takes (X.tr (X.pn ++ pins) xe) (askM X.K Wo D l) := fun u t xx => by
    obtain ⟨a, B, s1, pins1, τ1, H1, k, d, rfl, IB, nb, upS, sky, na, os, ag, w⟩ := xx
    have J := IB.ofTry okX
    have skyT : Sky B (X.env :: X.outer) a (L2N.Zn k d) X.env.locals t.heap := hst ▸ sky
    show wpAny (model X.prog X.w) X.A (noteFrame (.ref a) X.env) _ _ _
    refine L2N.Sky.land L2N.Zn.steady hA hfl skyT fun g fly upG => ?_
    have JG : Inv X pins τ1 H1 { t with heap := g } := J.landed nb fly.1 (upS.trans upG) os ag
    obtain ⟨oG, vG, atG, zG, dG⟩ := fly.there
    have out : a ∉ frs (X.env :: X.outer) := fun hm => by
      obtain ⟨_, o2, e2, hn⟩ := fly.2.2.1.mem hm
      rw [atG] at e2; cases e2
      exact hn _ dG
    have nL : a ≠ X.env.locals := fun z => out (List.mem_filterMap.mpr ⟨X.env, List.mem_cons_self, hfl.trans (congrArg some z.symm)⟩)
    have nF : a ∉ X.fs := fun hm => by
      obtain ⟨v, hv, q⟩ := List.mem_filterMap.mp hm
      exact out (List.mem_filterMap.mpr ⟨v, List.mem_cons_of_mem _ hv, q⟩)
    have IG := JG.suite atG dG na nL nF
    have look : PySem.W.Looks (model X.prog X.w) g (typeOf (.ref a)) k := fun A Q E s k' q => wpAny_typeOf_ref (k' _ _ atG) (zG.1.symm ▸ q)
    have go : ∀ {hs : List ExceptHandler} {r : List ClW}, ClsM X hs r → askM X.K Wo D r k d τ1 H1 → wpAny (model X.prog X.w) X.A (handleBy (.ref a) X.env hs) (SP X pins D) X.xe { t with heap := g } := by
      intro hs r hk
      induction hk with
      | nil =>
        intro w
        refine wpAny_handleBy_nil ?_
        obtain ⟨_, _, _, oe, vs, T, _, _, at1, _, dat, v1, _⟩ := id fly
        unfold PySem.passOn
        refine wpAny_bind (wpAny_field at1 dat v1 ?_)
        rw [if_neg (by simp : ¬ ((Value.ref T == Value.none) = true))]
        have up : wpAny (model X.prog X.w) X.A (setFlight (.ref a) X.env.frame) (fun _ t4 => wpAny (model X.prog X.w) X.A (throw (.ref a) : Sem Flow) (SP X pins D) X.xe t4) X.xe { t with heap := g } := by
          rw [hfl]
          refine HandSPX.setFlight_upZ fly fun g2 held upH => wpAny_throw (tk _ _ ?_)
          exact ⟨a, B, s1, pins, τ1, H1, k, d, rfl, J, nb, (upS.trans upG).trans upH, .inr (.inr (hst ▸ held)), na, os, ag, w⟩
        first
          | exact wpAny_bind (wpAny_pure (wpAny_bind up))
          | exact wpAny_bind up
      | @one x c ts s0 ss np hp hs2 l2 hc ok r2 ih =>
        rintro ⟨b, hm, yes, no⟩
        refine wpAny_handleBy_cons (codeAny_handlers_test ?_) (by intro q; cases q)
        refine cls_read hc IG ((PySem.W.exm_one (M := model X.prog X.w) JG.kIn look hm).here ?_)
        cases b with
        | false => exact ih (no rfl)
        | true =>
          refine codeAny_handlers_suite (HandSPX.lands_againZ fly fun g2 fly2 up2 => ?_)
          have J2 : Inv X pins τ1 H1 { t with heap := g2 } := J.landed nb fly2.1 ((upS.trans upG).trans up2) os ag
          obtain ⟨o2, v2, at2, z2, d2⟩ := fly2.there
          refine wpAny_mono ((ok a o2 k d (X.pn ++ pins) z2 ⟨_, d2⟩).run [] _ _ H1 _ (J2.suite at2 d2 na nL nF) (yes rfl a na)) (fun fl t6 hsp => ?_) (fun _ _ z => False.elim z)
          cases fl with
          | next => exact let ⟨σ6, H6, S6, q6⟩ := hsp; ⟨σ6, H6, S6.unsuite okX, q6⟩
          | brk => exact let ⟨σ6, H6, S6, q6⟩ := hsp; ⟨σ6, H6, S6.unsuite okX, q6⟩
          | cont => exact let ⟨σ6, H6, S6, q6⟩ := hsp; ⟨σ6, H6, S6.unsuite okX, q6⟩
          | ret u => exact let ⟨v6, σ6, H6, S6, r6, q6⟩ := hsp; ⟨v6, σ6, H6, S6.unsuite okX, r6, q6⟩
      | @named x n c i ts s0 ss np hp hs2 l2 hN hi hl hc ok r2 ih =>
        rintro ⟨b, hm, yes, no⟩
        refine wpAny_handleBy_cons (codeAny_handlers_test ?_) (by intro q; cases q)
        refine cls_read hc IG ((PySem.W.exm_one (M := model X.prog X.w) JG.kIn look hm).here ?_)
        cases b with
        | false => exact ih (no rfl)
        | true =>
          refine codeAny_handlers_suite_as (HandSPX.lands_againZ fly fun g2 fly2 up2 => ?_)
          have J2 : Inv X pins τ1 H1 { t with heap := g2 } := J.landed nb fly2.1 ((upS.trans upG).trans up2) os ag
          obtain ⟨o2, v2, at2, z2, d2⟩ := fly2.there
          refine store_ok (X := X.suite a ((a, o2) :: (X.pn ++ pins))) (v := .ref a) (J2.suite at2 d2 na nL nF) hN hi (.inl hl) rfl (fun t5 S5 => ?_) (.inr hl)
          refine wpAny_mono ((ok a o2 k d (X.pn ++ pins) z2 ⟨_, d2⟩).run [] t5 _ H1 _ S5 (yes rfl a na)) (fun fl t6 hsp => ?_) (fun _ _ z => False.elim z)
          have off : ∀ {τ6 : L2.St} {H6 : Hp} {Q : Shared → Prop}, Inv (X.suite a ((a, o2) :: (X.pn ++ pins))) [] τ6 H6 t6 → (∀ t7, Inv X pins (τ6.set i none) H6 t7 → Q t7) →
              wpAny (model X.prog X.w) X.A (do bindName X.env n .none; unbindBehindTheSuite X.env n hp) (fun _ t7 => Q t7) X.xe t6 := fun S6 hq => gone_ok (S6.unsuite okX) hN hi hl hq
          cases fl with
          | next => exact let ⟨_, _, S6, q6⟩ := hsp; off S6 fun t7 J7 => ⟨_, _, J7, q6⟩
          | brk => exact let ⟨_, _, S6, q6⟩ := hsp; off S6 fun t7 J7 => ⟨_, _, J7, q6⟩
          | cont => exact let ⟨_, _, S6, q6⟩ := hsp; off S6 fun t7 J7 => ⟨_, _, J7, q6⟩
          | ret u => exact let ⟨_, _, _, S6, r6, q6⟩ := hsp; off S6 fun t7 J7 => ⟨_, _, _, J7, r6, q6⟩
    exact go hh w
  refine wpAny_mono ((hb (askM X.K Wo D l) (X.pn ++ pins) xe tkB PassesOwn.looking).run [] s τ H D (I.toTry _) h) (fun fl t1 hsp => ?_) (fun u t1 hu => hu)
  cases fl with
  | next => exact let ⟨σ6, H6, J6, q6⟩ := hsp; wpAny_execs_nil ⟨σ6, H6, J6.ofTry okX, q6⟩
  | brk => exact let ⟨σ6, H6, J6, q6⟩ := hsp; ⟨σ6, H6, J6.ofTry okX, q6⟩
  | cont => exact let ⟨σ6, H6, J6, q6⟩ := hsp; ⟨σ6, H6, J6.ofTry okX, q6⟩
  | ret u => exact let ⟨v6, σ6, H6, J6, r6, q6⟩ := hsp; ⟨v6, σ6, H6, J6.ofTry okX, r6, q6⟩
end
/-- which classes a clause catches; its name's slot; what its suite does with the exception -/
structure HdM where
  ts : List (Str × Bool)
  sl : Option Nat
  g : Ex → M Fl
def clsT (ts : List (Str × Bool)) : Cn → Option Bool
  | .own c => ts.lookup c
  | .bi _ => none
def offR (i : Nat) (r : R Fl) : R Fl := match r with
  | .ok (.rt d) ρ => .ok (.rt d) (ρ.set i .un)
  | .ok .nx ρ => .ok .nx (ρ.set i .un)
  | _ => .stuck
def hdsM : List HdM → Ex → M Fl
  | [], x => fun ρ => .exc x ρ
  | h :: r, x => fun ρ => match clsT h.ts x.c with
    | some true => (match h.sl with
      | none => (match h.g x ρ with
        | .exc _ _ => .stuck
        | y => y)
      | some i => if (ρ.getD i .un).isIo = true ∨ ρ.length ≤ i then .stuck else offR i (h.g x (ρ.set i .pin)))
    | some false => hdsM r x ρ
    | none => .stuck
/-- try: g, the clauses hs -/
def xTry (g : M Fl) (hs : List HdM) : M Fl := fun ρ => match g ρ with
  | .exc x ρ' => hdsM hs x ρ'
  | r => r
section
variable [Lam] [P0 : Pins]
variable {K : PySem.W.Frag} {G : Ent} {σ : L2.St} {H F : Hp} {ρ : Ro} {i : Nat} {v : V}
/-- a slot is stored to; the context knows its value -/
theorem Stt.pinIn (S : Stt K G σ H F ρ) (hio : (ρ.getD i .un).isIo = false) (hl : i < ρ.length) : @Stt _ ⟨(i, v) :: P0.pv, F⟩ K G (σ.set i (some v)) H F (ρ.set i .pin) := by
  have S1 := S.drop (i := i) (v := some v) hio
  have g1 : ∀ j, (ρ.set i .pin).getD j .un = if i = j then .pin else (ρ.set i .un).getD j .un := fun j => by
    rw [getD_set, getD_set]
    by_cases c : i = j
    · subst c; simp [hl]
    · simp [c]
  have own : ∀ j, ((ρ.set i .pin).getD j .un).isOwn = true → ((ρ.set i .un).getD j .un).isOwn = true ∧ (ρ.set i .pin).getD j .un = (ρ.set i .un).getD j .un := fun j h => by
    rw [g1] at h ⊢
    split at h
    · cases h
    · rename_i c; rw [if_neg c]; exact ⟨h, rfl⟩
  refine @Stt.mk _ ⟨(i, v) :: P0.pv, F⟩ _ _ _ _ _ _ S1.sub S1.ft S1.tb S1.same S1.ext S1.new (by simpa using S1.len) (fun j => ?_) (fun j k a h1 h2 => S1.dis j k a (own j h1).1 (own k h2).1) (fun j a h1 => S1.fresh j a (own j h1).1) (fun j a hj => ?_) (fun p hp => ?_) S1.xx S1.xtd (fun j w hj => ?_) Sm.refl
  · rw [g1]
    split
    · trivial
    · exact S1.at_ j
  · obtain ⟨e1, e2⟩ := S1.io j a hj
    refine ⟨e1, ?_⟩
    rw [g1]
    split
    · rename_i c
      subst c
      rw [getD_set] at e2
      rw [if_pos ⟨rfl, hl⟩] at e2
      cases e2
    · exact e2
  · obtain ⟨e1, e2, e3, e4⟩ := S1.xt p hp
    exact ⟨e1, e2, e3, fun j h => e4 j (own j h).1⟩
  · rcases List.mem_cons.mp hj with e | hj
    · cases e
      exact ⟨List.getElem?_set_self (by rw [← S.len]; exact hl), by rw [g1, if_pos rfl]; rfl⟩
    · obtain ⟨e1, e2⟩ := S.pin j w hj
      have ne : i ≠ j := fun e => by subst e; rw [e2] at hio; cases hio
      exact ⟨by rw [List.getElem?_set_ne ne]; exact e1, by rw [g1, if_neg ne, getD_set, if_neg (fun c => ne c.1)]; exact e2⟩
/-- .. and forgotten -/
theorem Stt.pinOff {σ' : L2.St} {H' F' : Hp} {ρ' : Ro} (S : Stt K G σ H F ρ) (hio : (ρ.getD i .un).isIo = false) (hl : i < ρ.length) (S' : @Stt _ ⟨(i, v) :: P0.pv, F⟩ K G σ' H' F' ρ') : Stt K G (σ'.set i none) H' F' (ρ'.set i .un) := by
  obtain ⟨k1, k2, k3, k4, k5, k6, kl, kat, kdis, kfr, kio, kxt, kxx, kxd, kpin, kpf⟩ := S'
  have pi : (ρ'.getD i .un).isIo = true := (kpin i v (List.mem_cons_self ..)).2
  have g1 : ∀ j, (ρ'.set i .un).getD j .un = if i = j then .un else ρ'.getD j .un := fun j => by
    rw [getD_set]
    by_cases c : i = j
    · subst c
      by_cases d : i < ρ'.length
      · simp [d]
      · exfalso
        rw [List.getD_eq_getElem?_getD, List.getElem?_eq_none (by omega)] at pi
        cases pi
    · simp [c]
  have own : ∀ j, ((ρ'.set i .un).getD j .un).isOwn = true → i ≠ j ∧ (ρ'.getD j .un).isOwn = true := fun j h => by
    rw [g1] at h
    split at h
    · cases h
    · rename_i c; exact ⟨c, h⟩
  have get : ∀ {j}, i ≠ j → (σ'.set i none)[j]? = σ'[j]? := fun {j} ne => List.getElem?_set_ne ne
  refine ⟨k1, k2, k3, k4, k5, k6, by simp [kl], fun j => ?_, fun j k a h1 h2 e1 e2 => ?_, fun j a h1 e1 => ?_, fun j a hj => ?_, fun p hp => ?_, kxx, kxd, fun j w hj => ?_, S.pf.tr kpf⟩
  · rw [g1]
    split
    · trivial
    · rename_i c; rw [get c]; exact kat j
  · obtain ⟨n1, o1⟩ := own j h1
    obtain ⟨n2, o2⟩ := own k h2
    rw [get n1] at e1
    rw [get n2] at e2
    exact kdis j k a o1 o2 e1 e2
  · obtain ⟨n1, o1⟩ := own j h1
    rw [get n1] at e1
    exact kfr j a o1 e1
  · obtain ⟨e1, e2⟩ := kio j a hj
    have ne : i ≠ j := fun e => by
      subst e
      have := SV.isHd_io (S.io i a hj).2
      rw [hio] at this; cases this
    rw [get ne, g1, if_neg ne]
    exact ⟨e1, e2⟩
  · obtain ⟨e1, e2, e3, e4⟩ := kxt p hp
    refine ⟨e1, e2, e3, fun j h => ?_⟩
    obtain ⟨n1, o1⟩ := own j h
    rw [get n1]
    exact e4 j o1
  · have ne : i ≠ j := fun e => by
      subst e
      obtain ⟨_, e2⟩ := S.pin i w hj
      rw [e2] at hio; cases hio
    obtain ⟨e1, e2⟩ := kpin j w (List.mem_cons_of_mem _ hj)
    rw [get ne, g1, if_neg ne]
    exact ⟨e1, e2⟩
/-- the clauses do what they do -/
inductive AHs (X : Cx) : List ExceptHandler → List HdM → Prop
  | nil : AHs X [] []
  | one {x C : Str} {ts : List (Str × Bool)} {g : Ex → M Fl} {s0 : Stmt} {ss : List Stmt} {np hp : Pos} {hs : List ExceptHandler} {l : List HdM} (hc : Names X x (.ref (He.ga X.K C))) (ht : ∀ q ∈ ts, PySem.W.exmOne X.K (.ref (He.ga X.K q.1)) (.ref (He.ga X.K C)) = some q.2)
      (ok : ∀ (y : Ex) (a : Addr) (oe : Obj) (d : Option Addr) (pn : List (Addr × Obj)), L2N.Zn (y.c.v X.K) d oe → (∃ vs, oe.data = .fields vs) → clsT ts y.c = some true → AB (X.suite a ((a, oe) :: pn)) W0 (s0 :: ss) (g y)) (r : AHs X hs l) :
      AHs X (.ExceptHandler (some (.Name x np)) none (s0 :: ss) hp :: hs) (⟨ts, none, g⟩ :: l)
  | named {x n C : Str} {i : Nat} {ts : List (Str × Bool)} {g : Ex → M Fl} {s0 : Stmt} {ss : List Stmt} {np hp : Pos} {hs : List ExceptHandler} {l : List HdM} (hN : X.N.Nodup) (hi : X.N[i]? = some n) (hl : X.env.kindOf n = some .local) (hc : Names X x (.ref (He.ga X.K C))) (ht : ∀ q ∈ ts, PySem.W.exmOne X.K (.ref (He.ga X.K q.1)) (.ref (He.ga X.K C)) = some q.2)
      (ok : ∀ (y : Ex) (a : Addr) (oe : Obj) (d : Option Addr) (pn : List (Addr × Obj)) (F : Hp), L2N.Zn (y.c.v X.K) d oe → (∃ vs, oe.data = .fields vs) → clsT ts y.c = some true → ExcAt X.K F d y.fs → @AB _ ⟨(i, .ref a) :: P0.pv, F⟩ (X.suite a ((a, oe) :: pn)) W0 (s0 :: ss) (g y)) (r : AHs X hs l) :
      AHs X (.ExceptHandler (some (.Name x np)) (some n) (s0 :: ss) hp :: hs) (⟨ts, some i, g⟩ :: l)
/-- a suite's reading, whatever the exception's object is -/
def anyTs (X : Cx) (ss : List Stmt) : Addr → Value → Option Addr → TS := fun a k d D σ H => ∃ t : TS, (∀ (oe : Obj) (pn : List (Addr × Obj)), L2N.Zn k d oe → (∃ vs, oe.data = .fields vs) → PSs (X.suite a ((a, oe) :: pn)) ss t) ∧ t D σ H
theorem anyTs_ok {X : Cx} {ss : List Stmt} : SuiteOk X ss (anyTs X ss) := fun a oe k d pn hz hf => ⟨fun pins s σ H D I h => by
  obtain ⟨t, ht, h'⟩ := h
  exact (ht oe pn hz hf).run pins s σ H D I h'⟩
theorem clsT_true {ts : List (Str × Bool)} {c : Cn} {b : Bool} (h : clsT ts c = some b) : ∃ x, c = .own x ∧ (x, b) ∈ ts := by
  cases c with
  | own x => exact ⟨x, rfl, lookup_mem h⟩
  | bi x => cases h
theorem AHs.asks {X : Cx} : ∀ {hs : List ExceptHandler} {l : List HdM}, AHs X hs l → ∃ lw, ClsM X hs lw ∧ ∀ (G : Ent) (W : WX) (σ : L2.St) (H F : Hp) (ρ : Ro) (y : Ex) (d : Option Addr) (Dn : Ends),
    Stt X.K G σ H F ρ → ExcAt X.K F d y.fs → GoodS X.K G W F (hdsM l y ρ) Dn → askM X.K W Dn lw (y.c.v X.K) d σ H := by
  intro hs l h
  induction h with
  | nil => exact ⟨[], .nil, fun G W σ H F ρ y d Dn S hx hg => hg d σ H F S Sm.refl hx⟩
  | @one x C ts g s0 ss np hp hs l hc ht ok r ih =>
    obtain ⟨lw, h1, h2⟩ := ih
    refine ⟨(_, none, anyTs X (s0 :: ss)) :: lw, .one hc anyTs_ok h1, fun G W σ H F ρ y d Dn S hx hg => ?_⟩
    unfold hdsM at hg
    cases ec : clsT ts y.c with
    | none => simp only [ec] at hg; exact hg.elim
    | some b =>
      obtain ⟨c, e1, e2⟩ := clsT_true ec
      have hm := ht _ e2
      refine ⟨b, by rw [e1]; exact hm, fun hb a na => ?_, fun hb => ?_⟩
      · subst hb
        simp only [ec] at hg
        have key := fun (oe : Obj) (pn : List (Addr × Obj)) (hz : L2N.Zn (y.c.v X.K) d oe) (hf : ∃ vs, oe.data = .fields vs) => ok y a oe d pn hz hf ec
        refine ⟨fun D σ H => ∀ oe pn hz hf, (Classical.choose (key oe pn hz hf)) D σ H, fun oe pn hz hf => ⟨fun pins s σ H D I h => (Classical.choose_spec (key oe pn hz hf)).1.run pins s σ H D I (h oe pn hz hf)⟩, fun oe pn hz hf => ?_⟩
        refine (Classical.choose_spec (key oe pn hz hf)).2 G σ H F ρ Dn S ?_
        cases eg : g y ρ with
        | ok f ρ1 =>
          simp only [eg] at hg
          cases f <;> exact hg
        | exc _ _ => simp only [eg] at hg; exact hg.elim
        | stuck => simp only [eg] at hg; exact hg.elim
      · subst hb
        simp only [ec] at hg
        exact h2 G W σ H F ρ y d Dn S hx hg
  | @named x n C i ts g s0 ss np hp hs l hN hi hl hc ht ok r ih =>
    obtain ⟨lw, h1, h2⟩ := ih
    refine ⟨(_, some i, anyTs X (s0 :: ss)) :: lw, .named hN hi hl hc anyTs_ok h1, fun G W σ H F ρ y d Dn S hx hg => ?_⟩
    unfold hdsM at hg
    cases ec : clsT ts y.c with
    | none => simp only [ec] at hg; exact hg.elim
    | some b =>
      obtain ⟨c, e1, e2⟩ := clsT_true ec
      have hm := ht _ e2
      refine ⟨b, by rw [e1]; exact hm, fun hb a na => ?_, fun hb => ?_⟩
      · subst hb
        simp only [ec] at hg
        split at hg
        · exact hg.elim
        · rename_i hz0
          have hio : (ρ.getD i .un).isIo = false := by
            cases q : (ρ.getD i .un).isIo with
            | false => rfl
            | true => exact absurd (.inl q) hz0
          have hlt : i < ρ.length := Nat.lt_of_not_le fun z => hz0 (.inr z)
          have key := fun (oe : Obj) (pn : List (Addr × Obj)) (hz : L2N.Zn (y.c.v X.K) d oe) (hf : ∃ vs, oe.data = .fields vs) => ok y a oe d pn F hz hf ec hx
          refine ⟨fun D σ H => ∀ oe pn hz hf, (Classical.choose (key oe pn hz hf)) D σ H, fun oe pn hz hf => ⟨fun pins s σ H D I h => (Classical.choose_spec (key oe pn hz hf)).1.run pins s σ H D I (h oe pn hz hf)⟩, fun oe pn hz hf => ?_⟩
          refine (Classical.choose_spec (key oe pn hz hf)).2 G _ H F (ρ.set i .pin) _ (S.pinIn (v := .ref a) hio hlt) ?_
          cases eg : g y (ρ.set i .pin) with
          | ok f ρ1 =>
            simp only [eg] at hg
            cases f with
            | nx => exact fun σ' H' F' S' s' => hg _ H' F' (S.pinOff hio hlt S') s'
            | rt w => exact fun v σ' H' F' S' s' rv => hg v _ H' F' (S.pinOff hio hlt S') s' rv
            | rn _ => exact hg.elim
            | bk => exact hg.elim
            | ct => exact hg.elim
          | exc _ _ => simp only [eg] at hg; exact hg.elim
          | stuck => simp only [eg] at hg; exact hg.elim
      · subst hb
        simp only [ec] at hg
        exact h2 G W σ H F ρ y d Dn S hx hg
/-- try .. except .. -/
theorem AS.try_ {X : Cx} {W : WX} {body : List Stmt} {e0 : ExceptHandler} {es : List ExceptHandler} {g : M Fl} {l : List HdM} {pos : Pos} (hst : X.stack = X.env :: X.outer) (hfl : X.env.frame = some X.env.locals) (tk : L2N.Takes X W)
    (hb : ∀ (W' : WX) (pn : List (Addr × Obj)) (xe : Value → Shared → Prop), L2N.Takes (X.tr pn xe) W' → PassesOwn (model X.prog X.w) X.A X.env xe → AB (X.tr pn xe) W' body g) (hh : AHs X (e0 :: es) l) : AS X W (.Try body (e0 :: es) [] [] pos) (xTry g l) := by
  obtain ⟨lw, h1, h2⟩ := hh.asks
  let tb : WX → TS := fun W' D σ H => ∀ pn xe tk po, (Classical.choose (hb W' pn xe tk po)) D σ H
  refine ⟨_, ps_tryM (tb := tb) hst hfl tk (fun W' pn xe tk' po => ⟨fun pins s σ H D I h => (Classical.choose_spec (hb W' pn xe tk' po)).1.run pins s σ H D I (h pn xe tk' po)⟩) h1, fun G σ H F ρ Dn S hg pn xe tk' po => ?_⟩
  refine (Classical.choose_spec (hb _ pn xe tk' po)).2 G σ H F ρ Dn S ?_
  unfold xTry at hg
  cases eg : g ρ with
  | ok f ρ1 =>
    simp only [eg] at hg
    cases f <;> exact hg
  | exc y ρ1 =>
    simp only [eg] at hg
    exact fun d σ' H' F' S' s' x' => h2 G W σ' H' F' ρ1 y d Dn S' x' (hg.mono s')
  | stuck => simp only [eg] at hg; exact hg.elim
end
theorem takes0N {X : Cx} : L2N.Takes X (fun _ _ _ _ => False) := fun _ _ ⟨_, _, _, _, _, _, _, _, _, _, _, _, _, _, _, _, w⟩ => w.elim
end Mr
namespace Mr
open PySem PySem.Spec PyProof.Rows L2
section
open LamX
/-- the context of a lambda's body; what leaves it bears no context -/
def lamCxN (X : Cx) (A : Around) (outer : List Env) (s : Shared) (H : Hp) (E : XK) (scope : Scope) (f c' : Addr) : Cx where
  prog := X.prog
  w := X.w
  K := X.K
  mg := X.mg
  base := X.base
  A := A.deeper (lamEnv X scope s.heap.objs.size f c')
  N := X.N
  s_0 := s
  H_0 := H
  env := lamEnv X scope s.heap.objs.size f c'
  outer := outer
  stack := lamEnv X scope s.heap.objs.size f c' :: outer
  ex := []
  fn := fun _ => false
  calm := true
  pn := []
  xe := fun e t => wpAny (model X.prog X.w) (A.deeper (lamEnv X scope s.heap.objs.size f c')) (leaving (lamEnv X scope s.heap.objs.size f c') e) (fun _ t' => L2N.CX X.prog X.w outer H s E e t') (fun e' t' => L2N.CX X.prog X.w outer H s E e' t') t
end
/-- the call of what a def was handed -/
def mThunk (r : FR D) : M D := fun ρ => match ρ.getD 0 .un with
  | .pin => r.lift ρ
  | _ => .stuck
/-- the slots as a lambda sees them: what stands still -/
def stillR (ρ : Ro) : Ro := ρ.map fun sv => match sv with
  | .val d => .val d
  | .pin => .pin
  | _ => .un
def R.toF {α : Type} : R α → FR α
  | .ok a _ => .ok a
  | .exc x _ => .exc x
  | .stuck => .stuck
def mLam (m : FR D → FR D) (f : M D) : M D := fun ρ => (m (f (stillR ρ)).toF).lift ρ
section
variable [Lam] [P0 : Pins]
variable {K : PySem.W.Frag} {G : Ent} {σ : L2.St} {H F H1 F1 : Hp} {ρ : Ro}
theorem getD_still {i : Nat} : (stillR ρ).getD i .un = (match ρ.getD i .un with
  | .val d => .val d
  | .pin => .pin
  | _ => .un) := by
  unfold stillR
  rw [List.getD_eq_getElem?_getD, List.getD_eq_getElem?_getD, List.getElem?_map]
  cases ρ[i]? with
  | none => rfl
  | some sv => rfl
theorem still_own {i : Nat} : ((stillR ρ).getD i .un).isOwn = false := by
  rw [getD_still]
  cases ρ.getD i .un <;> rfl
/-- what stands still, in a later heap -/
theorem Stt.still (S : Stt K G σ H F ρ) (hp0 : ∀ i v, (i, v) ∈ P0.pv → ρ.getD i .un = .pin) (p : Pre K F1 H1) (s : Sm F F1) : Stt K ⟨H1, F1, [], []⟩ σ H1 F1 (stillR ρ) := by
  refine ⟨p.sub, p.ft, p.tb, fun _ _ h _ _ => h, Sm.refl, fun _ _ h => .inl h, by simp [stillR, S.len], fun i => ?_, fun i j a h => ?_, fun i a h => ?_, fun i a h => by simp at h, fun q h => by simp at h, fun q h => by simp at h, .nil, fun i v h => ?_, S.pf.tr s⟩
  · rw [getD_still]
    have q := S.at_ i
    cases e : ρ.getD i .un with
    | val d => rw [e] at q; obtain ⟨v, e1, r⟩ := q; exact ⟨v, e1, r.mono s⟩
    | _ => trivial
  · rw [still_own] at h; cases h
  · rw [still_own] at h; cases h
  · obtain ⟨e1, _⟩ := S.pin i v h
    exact ⟨e1, by rw [getD_still, hp0 i v h]; rfl⟩
end
open LamX
section
variable [Lam] [P0 : Pins]
/-- the context of a def that is handed a lambda -/
abbrev cxT (X : Cx) (Ng : List Str) (nm : Str) (sg : Scope) (g : Addr) (cdg : Value) (s : Shared) (H : Hp) : Cx := cxOf (L2N.CX X.prog X.w) X.prog X.w X.K X.mg X.base Ng nm sg g cdg X.A X.stack s H E0F
end
section
variable [Lam] [P0 : Pins]
end
end Mr
namespace Mr
open PySem PySem.Spec PyProof.Rows L2
variable [Lam] [Pins]
/-- what the text says of the class U's == and != -/
structure EqF (K : PySem.W.Frag) (U : Str) : Prop where
  nf : ∀ t ∈ (["NoneType", "bool", "int", "str", "tuple", "list", "dict"] : List String), PySem.W.notFirst K (He.ga K U) (.type t) = true
  ne : PySem.W.findIn K (.ref (He.ga K U)) "__ne__" = some (some (.builtin "object.__ne__"))
  so : PySem.W.subIn K (.ref (He.ga K U)) (.type "object") = some true
  ns : PySem.W.noSeq K (He.ga K U) = true
section
variable {X : Cx} {W : WX} {k : Nat} {f : Addr} {fd : FuncData} {ps : List Str} {sp : Sp} {pins : List (Addr × Obj)} {σ : L2.St} {H : Hp} {s : Shared} {Q : VK}
theorem run_in {A' : Around} (room : RoomG k A') (e0 : Env0 X.prog X.w X.K X.mg X.base A' X.stack s H) {us : List Value} {vs : List V} (F : FnG X.prog X.w X.K X.mg X.base k f fd ps sp) (hb : Binds X.K fd ps []) (I : Inv X pins σ H s) (r : Vals vs us) (h : sp vs H Q E0F) {E' : Value → Shared → Prop} :
    wpAny (model X.prog X.w) A' (call (.ref f) us) (EP X pins σ Q) E' s := by
  have hl : (us ++ ([] : List Value)).length = ps.length := by rw [List.append_nil, ← r.length]; exact F.len _ _ _ _ h
  refine wpAny_call (codeAny_mono (F.run A' X.stack s H ⟨us, []⟩ (us ++ []) vs Q E0F room e0 (hb s us I.kIn hl) (by rw [List.append_nil]; exact r) h) fun r s2 q => ?_)
  match r, q with
  | .error er, q => obtain ⟨_, _, _, _, _, _, _, _, _, _, _, _, z⟩ := q; exact z.elim
  | .ok (.ret u), q => exact I.after q
  | .ok .next, q => exact False.elim q
  | .ok .brk, q => exact False.elim q
  | .ok .cont, q => exact False.elim q
def rOwnLen (C : Addr) (sp : Sp) : List V → Hp → VK → Prop := fun xs H Q => ∃ a dx fs, xs = [.ref a] ∧ H a = some (.ins C dx fs) ∧ sp [.ref a] H (fun v H' => ∃ n : Int, v = .int n ∧ (0 ≤ n ∧ n < 2 ^ 63) ∧ Q (.int n) H') E0F
theorem call_lenOwn {C : Addr} (M : Meth X.K C "__len__" f) (F : FnG X.prog X.w X.K X.mg X.base k f fd ps sp) (hr : RoomG (k + 1) X.A) (hb : Binds X.K fd ps []) : CallR X (.builtin "len") (rOwnLen C sp) := by
  intro pins s σ H xs us Q I r h
  obtain ⟨a, dx, fs, rfl, ea, hs⟩ := h
  obtain ⟨u, rfl, ru⟩ : ∃ u, us = [u] ∧ RelV (.ref a) u := by
    cases r with
    | cons r1 rr => cases rr; exact ⟨_, rfl, r1⟩
  obtain rfl : u = Value.ref a := ru
  obtain ⟨mA, J, _⟩ := ins_get I.hok ea
  obtain ⟨od, J, _⟩ := J.look
  obtain ⟨m, hF⟩ := I.fr
  have room : RoomG k X.A.in1 := ⟨hr.r.in1, hr.g⟩
  refine PySem.W.len_K hF I.ok.mod.kin J M.at_ M.fn (wpAny_mono (run_in (us := [.ref a]) (vs := [.ref a]) room I.env0.in1 F hb I (.cons rfl .nil) hs) (fun r s' q => ?_) fun _ _ z => z)
  obtain ⟨w, H', I', rw_, n, e, hn, q⟩ := q
  subst e
  obtain ⟨t, rfl⟩ := rw_
  exact ⟨hn, .int n, H', I'.tok _, ⟨_, rfl⟩, q⟩
/-- what stands as an index of a plain subscript, by an own __getitem__ -/
def PlainIxO (b : Expr) : Prop := ∀ o i, subscripted b true o i = runValue (.builtin "lifetime.subscript" ⟨[o, i], []⟩)
def IxO (X : Cx) (r : R2) : Prop :=
  ∀ (value slice : Expr) (pins : List (Addr × Obj)) (s : Shared) (σ : L2.St) (H : Hp) (x y : V) (v u : Value) (Q : VK), Inv X pins σ H s → RelV x v → RelV y u → r x y H Q →
    PlainIx slice → PlainIxO slice → wpAny (model X.prog X.w) X.A (subscriptTail value slice v u) (EP X pins σ Q) X.xe s
theorem IxO.or {r r' : R2} (h : IxO X r) (h' : IxO X r') : IxO X (fun x y H Q => r x y H Q ∨ r' x y H Q) := by
  intro value slice pins s σ H x y v u Q I rx ry q p po
  rcases q with q | q
  · exact h value slice pins s σ H x y v u Q I rx ry q p po
  · exact h' value slice pins s σ H x y v u Q I rx ry q p po
end
section
variable {prog : Program} {w : World} {A : Around} {E : Value → Shared → Prop} {s : Shared} {K : PySem.W.Frag} {x C L f : Addr} {h₀ : Heap} {m : Str → Option Value} {ox : Obj} {od : Option Obj} {b tb : Value}
end
section
variable {X : Cx} {W : WX} {k : Nat} {f : Addr} {fd : FuncData} {ps : List Str} {sp : Sp} {c : Str} {m : List D → FR D}
/-- len by an own __len__ -/
def natR : FR D → FR D
  | .ok (.int n) => if 0 ≤ n ∧ n < 2 ^ 63 then .ok (.int n) else .stuck
  | _ => .stuck
theorem natR_ok {r : FR D} {ρ : Ro} {K : PySem.W.Frag} {G : Ent} {σ : L2.St} {F : Hp} {T : D → Ro → Hp → Hp → Prop} (g : Good K G W σ F ((natR r).lift ρ) T) : ∃ n : Int, r = .ok (.int n) ∧ (0 ≤ n ∧ n < 2 ^ 63) ∧ natR r = .ok (.int n) := by
  cases r with
  | ok x => cases x with
    | int n =>
      by_cases h : 0 ≤ n ∧ n < 2 ^ 63
      · exact ⟨n, rfl, h, if_pos h⟩
      · have e : natR (.ok (.int n)) = .stuck := if_neg h
        rw [e] at g
        exact g.elim
    | _ => exact g.elim
  | _ => exact g.elim
def lenW (c : Str) (m : List D → FR D) : List D → FR D
  | [.obj c' ns ds] => if c' = c then natR (m [.obj c' ns ds]) else .stuck
  | l => lenD l
theorem CallR.or {f : Value} {r r' : List V → Hp → VK → Prop} (h : CallR X f r) (h' : CallR X f r') : CallR X f fun xs H Q => r xs H Q ∨ r' xs H Q := by
  intro pins s σ H xs us Q I rs q
  rcases q with q | q
  · exact h pins s σ H xs us Q I rs q
  · exact h' pins s σ H xs us Q I rs q
theorem CA.lenW (M : Meth X.K (He.ga X.K c) "__len__" f) (Fn : FnG X.prog X.w X.K X.mg X.base k f fd ps (PSp X.K 1 m)) (hr : RoomG (k + 1) X.A) (hb : Binds X.K fd ps []) : CA X W (.builtin "len") (lenW c m) := by
  obtain ⟨r, p, q⟩ := CA.len (X := X) (W := W)
  refine ⟨_, CallR.or p (call_lenOwn M Fn hr hb), fun G σ H F ρ vs ds Q S rs hg => ?_⟩
  by_cases ho : ∃ c' ns xs, ds = [.obj c' ns xs]
  · obtain ⟨c', ns, xs, rfl⟩ := ho
    obtain ⟨v, rfl, rv⟩ := reps1 rs
    cases rv with
    | @obj a dxx _ _ vs fs _ h1 h2 h3 h4 =>
      have gg : Good X.K G W σ F ((if c' = c then natR (m [.obj c' ns xs]) else .stuck).lift ρ) (PD X.K Q) := hg
      clear hg
      split at gg
      · rename_i hc
        subst hc
        obtain ⟨n, hm, hn, e⟩ := natR_ok gg
        rw [e] at gg
        refine .inr ⟨_, _, _, rfl, S.sub _ _ h1, rfl, F, [.obj c' ns xs], S.pre, .cons (.obj h1 h2 h3 h4) .nil, ?_⟩
        exact goodF0 S (fun d e v H' F' S' s' rv => by
            rw [hm] at e
            cases e
            cases rv
            exact ⟨n, rfl, hn, gg H' F' S' s' _ (.int _)⟩) ⟨_, hm⟩
      · exact gg.elim
  · have e : Mr.lenW c m ds = lenD ds := by
      unfold Mr.lenW
      split
      · rename_i c' ns xs; exact absurd ⟨c', ns, xs, rfl⟩ ho
      · rfl
    rw [e] at hg
    exact .inl (q G σ H F ρ vs ds Q S rs hg)
end
section
open Builtin Builtin.Str
variable {prog : Program} {w : World}
variable {X : Cx} {W : WX} {k : Nat} {f : Addr} {fd : FuncData} {ps : List Str} {sp : Sp} {c : Str} {m : List D → FR D}
end
section
variable {X : Cx} {W : WX} {e : Expr} {es : List Expr} {fe : M D} {pos : Pos}
def AJ (X : Cx) (W : WX) (es : List Expr) (g : Str → M D) : Prop := ∃ ts, PJ X es ts ∧ ∀ acc G σ H F ρ Q, Stt X.K G σ H F ρ → Good X.K G W σ F (g acc ρ) (PD X.K Q) → tJs ts acc σ H fun out H1 => Q (.str out) H1
def jNil : Str → M D := fun acc => mC (.str acc)
def jCons (f : M D) (r : Str → M D) : Str → M D := fun acc ρ => (f ρ).bind fun d ρ => match d with
  | .str y => if (acc ++ y).length ≤ sizeLine then r (acc ++ y) ρ else .stuck
  | _ => .stuck
theorem AJ.nil : AJ X W [] jNil := ⟨[], .nil, fun acc G σ H F ρ Q S hg => hg H F S Sm.refl _ (.str _)⟩
theorem AJ.cons {g : Str → M D} (he : AE X W e fe) (h : AJ X W es g) : AJ X W (e :: es) (jCons fe g) := by
  obtain ⟨t, pe, qe⟩ := he
  obtain ⟨ts, pj, qj⟩ := h
  refine ⟨t :: ts, .cons pe pj, fun acc G σ H F ρ Q S hg => qe G σ H F ρ _ S (hg.bind fun d ρ1 H1 F1 S1 s1 g1 v r1 => ?_)⟩
  cases r1 with
  | str y =>
    have g2 : Good X.K G W σ F1 (if (acc ++ y).length ≤ sizeLine then g (acc ++ y) ρ1 else .stuck) (PD X.K Q) := g1
    split at g2
    · rename_i hz; exact ⟨y, rfl, hz, qj _ G σ H1 F1 ρ1 Q S1 g2⟩
    · exact g2.elim
  | _ => exact g1.elim
end
end Mr
namespace Mr
open PySem PySem.Spec PyProof.Rows L2
variable [Lam] [Pins]
section
variable {X : Cx} {W : WX} {e a b : Expr} {fa fb : M D} {fs : M (List D)} {pos py : Pos} {x y : Str}
/-- an expression that gives a new dict -/
def AND (X : Cx) (W : WX) (e : Expr) (f : M (List Key × List D)) : Prop := ∃ t, PE X e t ∧ ∀ G σ H F ρ Q, Stt X.K G σ H F ρ →
  Good X.K G W σ F (f ρ) (fun kd ρ' H' F' => ∀ a vs H2, Stt X.K ⟨G.H0, G.F0, G.io, (a, .dK (kd.1.zip vs)) :: G.xt⟩ σ H2 F' ρ' → kd.1.length = vs.length → Reps X.K F' vs kd.2 → Q (.ref a) H2) → t σ H Q
def mD0 : M (List Key × List D) := fun ρ => .ok ([], []) ρ
theorem AND.empty : AND X W (.Dict [] [] pos) mD0 := by
  refine ⟨_, pe_dnewK, fun G σ H F ρ Q S hg p np => ?_⟩
  exact hg H F S Sm.refl p [] _ (S.xtNew np) rfl .nil
def mDictN (ks : List Key) (fs : M (List D)) : M (List Key × List D) := fun ρ => (fs ρ).bind fun ds ρ => if ds.length = ks.length then .ok (ks, ds) ρ else .stuck
/-- x = a new dict, changed later -/
def xOwnD (i : Nat) (f : M (List Key × List D)) : M Fl := fun ρ => (f ρ).bind fun kd ρ => if (ρ.getD i .un).isIo = true then .stuck else .ok .nx (ρ.set i (.dic false kd.1 kd.2))
theorem AS.ownD {i : Nat} {f : M (List Key × List D)} {pos' : Pos} (hN : X.N.Nodup) (hi : X.N[i]? = some x) (hx : Loc X.env.scope x) (he : AND X W e f) (hs : swapsWith e (some (.Name x pos')) pos.line X.env = pure false := by rfl) (hf : X.fn x = true ∨ X.env.scope.names.lookup x = some .local := by first | exact .inl rfl | exact .inr rfl) :
    AS X W (.Assign [.Name x pos'] e pos) (xOwnD i f) := by
  obtain ⟨t, p, q⟩ := he
  refine ⟨_, ps_set hN hi hx p hs hf, fun G σ H F ρ Dn S hg => q G σ H F ρ _ S (GoodS.bind hg fun ds ρ1 H1 F1 S1 s1 g1 a vs H2 S2 l r => ?_)⟩
  split at g1
  · exact g1.elim
  · rename_i hh
    obtain ⟨e1, e2, _, _⟩ := S2.xt (a, .dK (ds.1.zip vs)) (List.mem_cons_self ..)
    exact g1 _ H2 F1 (S2.xtSlot (by simpa using hh) ⟨a, vs, rfl, e1, l, e2, r⟩ rfl) Sm.refl
theorem dic_at {K : PySem.W.Frag} {G : Ent} {σ : L2.St} {H F : Hp} {ρ : Ro} {j : Nat} {p : Bool} {ks : List Key} {ds : List D} (S : Stt K G σ H F ρ) (h : ρ.getD j .un = .dic p ks ds) : ∃ a vs, σ[j]? = some (some (V.ref a)) ∧ H a = some (.dK (ks.zip vs)) ∧ ks.length = vs.length ∧ F a = none ∧ Reps K F vs ds := by
  have q := S.at_ j
  rw [h] at q
  exact q
/-- d[k] = v -/
def xDSet (j : Nat) (fk fv : M D) : M Fl := fun ρ => (fv ρ).bind fun v ρ => match ρ.getD j .un with
  | .dic _ _ _ => (fk ρ).bind fun kd ρ => match ρ.getD j .un, keyD kd with
    | .dic p ks ds, some k => if ks.length < sizeLine then .ok .nx (ρ.set j (.dic p (setKs k ks) (setVs k v ks ds))) else .stuck
    | _, _ => .stuck
  | _ => .stuck
theorem AS.dset {j : Nat} {ev : Expr} {fv : M D} {p1 : Pos} (hu : X.A.units + 64 < cLine) (hv : AE X W ev fv) (h0 : PE X (.Name y py) (tVar j)) (hb : AE X W b fb) (hs : swapsWith ev (some (.Subscript (.Name y py) b p1)) pos.line X.env = pure false := by rfl) :
    AS X W (.Assign [.Subscript (.Name y py) b p1] ev pos) (xDSet j fb fv) := by
  obtain ⟨tv, pv, qv⟩ := hv
  obtain ⟨tb, pb, qb⟩ := hb
  refine ⟨_, ps_dput (by omega) h0 pb pv hs, fun G σ H F ρ Dn S hg => qv G σ H F ρ _ S (GoodS.bind hg fun dv ρ1 H1 F1 S1 s1 g1 v rv => ?_)⟩
  split at g1
  · rename_i p0 ks0 ds0 e0
    obtain ⟨a, vs, e1, e2, e3, e4, r⟩ := dic_at S1 e0
    refine ⟨_, e1, qb G σ H1 F1 ρ1 _ S1 (GoodS.bind g1 fun di ρ2 H2 F2 S2 s2 g2 u ru => ?_)⟩
    split at g2
    · rename_i p1 ks ds k f0 hk
      obtain ⟨a', ws, f1, f2, f3, f4, r'⟩ := dic_at S2 f0
      rw [e1] at f1; cases f1
      split at g2
      · rename_i hl
        have ek := keyD_v ru hk
        refine ⟨a, _, rfl, by rw [ek]; exact DPut.k f2 (by rw [List.length_zip]; omega), ?_⟩
        refine g2 σ _ F2 (S2.change (by rw [f0]; rfl) e1 (S2.own_upd (by rw [f0]; rfl) e1) (fun b o h => ?_) Sm.refl (fun _ _ h => .inl h) S2.ft ⟨a, setVs k v ks ws, rfl, by rw [put_zip f3]; exact upd_same, set_len f3, f4, set_reps (rv.mono s2) r'⟩ rfl (by rw [f0]; rfl)) Sm.refl
        by_cases eb : b = a
        · subst eb; rw [f4] at h; cases h
        · rw [upd_ne eb]; exact S2.sub b o h
      · exact g2.elim
    · exact g2.elim
  · exact g1.elim
def keyV : Key → D
  | .inl i => .int i
  | .inr x => .str x
theorem keys_reps {K : PySem.W.Frag} {F : Hp} : ∀ {ks : List Key} {vs : List V}, ks.length = vs.length → Reps K F ((ks.zip vs).map fun kv => kV kv.1) (ks.map keyV)
  | [], _, _ => .nil
  | _ :: _, [], l => by cases l
  | k :: ks, v :: vs, l => by
    rw [List.zip_cons_cons, List.map_cons, List.map_cons]
    refine .cons ?_ (keys_reps (by simpa using l))
    cases k with
    | inl i => exact .int i
    | inr x => exact .str x
theorem AND.dict {keys : List (Option Expr)} {es : List Expr} {ks : List Key} (hp : AP X W pos keys es ks fs) (hn : ks.Nodup) (h0 : keys ≠ []) (h15 : keys.length ≤ 15) : AND X W (.Dict keys es pos) (mDictN ks fs) := by
  obtain ⟨trs, pp, l1, l2, l3, qp⟩ := hp
  refine ⟨_, pe_disp pp l3 (l1.trans l2.symm) h0 h15, fun G σ H F ρ Q S hg p np => ?_⟩
  have S0 : Stt X.K ⟨G.H0, G.F0, G.io, (p, .dK []) :: G.xt⟩ σ (upd H p (.dK [])) F ρ := S.xtNew np
  refine qp _ σ _ F ρ _ S0 ?_
  unfold mDictN at hg
  cases ef : fs ρ with
  | stuck => rw [ef] at hg; exact hg.elim
  | exc x ρ1 =>
    rw [ef] at hg
    exact fun d H' F' S1 s1 x1 => hg d H' (upd F' p (.dK [])) (S1.xtFreeze).1 (s1.tr S1.xtFreeze.2) (by
      rcases x1 with x1 | ⟨dd, vs, e1, e2, e3⟩
      · exact .inl x1
      · exact .inr ⟨dd, vs, e1, S1.xtFreeze.2 _ _ e2, e3.mono S1.xtFreeze.2⟩)
  | ok ds ρ1 =>
    rw [ef, show ((R.ok ds ρ1).bind fun ds ρ => if ds.length = ks.length then R.ok (ks, ds) ρ else .stuck) = (if ds.length = ks.length then R.ok (ks, ds) ρ1 else .stuck) from rfl] at hg
    split at hg
    · rename_i hl
      intro H' F' S1 s1 vs rv
      have lv : vs.length = ks.length := rv.length.trans hl
      refine ⟨⟨(S1.xt (p, .dK []) (List.mem_cons_self ..)).1, ks.zip vs, rfl, by rw [List.length_zip]; omega, ?_⟩, lv⟩
      have em : mergeK [] (ks.zip vs) = ks.zip vs := by
        rw [merge_nodup _ [] (by rw [List.nil_append, List.map_fst_zip (by omega)]; exact hn)]; rfl
      rw [em]
      exact hg H' F' S1.xtDrop s1 p vs _ (S1.xtUpd (o' := .dK (ks.zip vs))) lv.symm rv
    · exact hg.elim
end
end Mr
namespace Mr
open PySem
/-- what a built-in class's own __init__ must be -/
structure IniF (B i : String) : Prop where
  plain : plainId i = true
  entry : entryFor table i = some Builtin.«BaseException.__init__»
  kind : builtinKind i = some .slot
  row : Manifest.signature? i = some ⟨.positional, "*", B, .self, [⟨"args", .varPos, false⟩]⟩
  noStar : (B != "*") = true
/-- a class that is made by the __new__ of Bn -/
structure NewF (Bn newId inN : String) (bmN bm : List Value) : Prop where
  fn : ExcBaseFacts Bn newId inN bmN
  has : bm.contains (.type Bn) = true
  noA : bm.contains (.type "AttributeError") = false
  noN : bm.contains (.type "NameError") = false
section
variable {prog : Program} {w : World} {A : Around} {E : Value → Shared → Prop} {R : Result → Shared → Prop} {h : Heap} {g : Array GenState} {d : Drawn} {t : Nat} {os : OsState}
variable {nm q : Str} {C N : Addr} {bs bm bmB bmN : List Value} {hdct : Bool} {sn : List Str} {sub : List Value} {ab : Bool} {col : Option Bool} {dd : Option Addr} {k0 k1 k2 k3 k5 : Option Value} {Bn newId inN : String}
end
section
open PySem.W PyProof.Rows
variable {prog : Program} {w : World} {A : Around} {E : Value → Shared → Prop} {s : Shared} {h₀ : Heap} {L : Addr} {m : Str → Option Value} {news : List (Addr × Obj)} {K : Frag} {x C u : Addr} {B i newId : String} {bmB : List Value}
end
end Mr
namespace Mr
open PySem PySem.Spec PyProof.Rows L2
/-- a built-in class over which an own error stands -/
structure ExBase (B newId initId : String) (bmB : List Value) : Prop where
  fb : ExcBaseFacts B newId initId bmB ∨ (IniF B initId ∧ ∃ Bn inN bmN, NewF Bn newId inN bmN bmB)
  kf : PySem.W.KxsFacts B initId
  sf : StoreFacts B bmB "object.__setattr__" "object"
abbrev bmIndex : List Value := [.type "IndexError", .type "LookupError", .type "Exception", .type "BaseException", .type "object"]
theorem exb_Index : ExBase "IndexError" "IndexError.__new__" "IndexError.__init__" bmIndex := ⟨.inl PySem.F.excBase_IndexError, PySem.W.kxs_IndexError, PySem.F.store_IndexError⟩
/-- what the body's shape asks of its environment -/
def InitEnv (qual : Str) (scope : Scope) (f y m : Str) (j : Nat) (p0 p1 p2 p3 p4 p5 p6 p7 p8 p9 : Pos) : Prop := ∀ L g cda cc : Addr,
  interactive (PySem.W.ksEnv qual scope L g (.ref cda) cc) = false ∧
  swapsWith (.Call (.Attribute (.Call (.Name "super" p0) [] [] p1) "__init__" p2) [.Constant (.str m) j p3] [] p4) none p5.line (PySem.W.ksEnv qual scope L g (.ref cda) cc) = pure false ∧
  swapsWith (.Name y p8) (some (.Attribute (.Name "self" p6) f p7)) p9.line (PySem.W.ksEnv qual scope L g (.ref cda) cc) = pure false ∧
  ∃ pl : Sem Bool, eval (.Call (.Attribute (.Call (.Name "super" p0) [] [] p1) "__init__" p2) [.Constant (.str m) j p3] [] p4) (PySem.W.ksEnv qual scope L g (.ref cda) cc) = (do
    let ov ← attributeBase (.Call (.Name "super" p0) [] [] p1) "__init__" (PySem.W.ksEnv qual scope L g (.ref cda) cc) (eval (.Call (.Name "super" p0) [] [] p1) (PySem.W.ksEnv qual scope L g (.ref cda) cc))
    standAt p2.atName
    let (f, first) ← holding [ov] (getMethod ov "__init__" pl)
    callWith p4 f first (backTo p4 (starEach [.Constant (.str m) j p3] (PySem.W.ksEnv qual scope L g (.ref cda) cc))) [])
/-- what the top has left of an own error C that keeps its one value as f: fI is its __init__ (self, y) -/
structure ErrI (prog : Program) (K : PySem.W.Frag) (C fI : Addr) (f y m : Str) (B newId initId : String) (bmB : List Value) : Prop where
  base : ExBase B newId initId bmB
  init : PySem.W.findIn K (.ref C) "__init__" = some (some (.ref fI))
  made : PySem.W.excInitIn K C bmB newId = true
  isf : PySem.W.isFn K (.ref fI) = true
  sa : PySem.W.findIn K (.ref C) "__setattr__" = some (some (.builtin "object.__setattr__"))
  over : PySem.W.excOver K C bmB = true
  tk : PySem.W.takerIn K C f = some none
  hd : PySem.W.hasDictIn K C = true
  sup : PySem.W.ks_superIn K C C "__init__" = some (some (.builtin initId))
  subB : PySem.W.subIn K (.ref C) (.type B) = some true
  exC : PySem.W.subIn K (.ref C) (.type "BaseException") = some true
  tyC : PySem.W.typeIn K (.ref C) = some (.type "type")
  kC : PySem.W.keepIn K (.ref C) = true
  opq : PySem.W.nsIn K cStatics "thirdparty.any" = some none
  slf : PySem.W.mroIn K C (.ref C) = some true
  clsC : ∃ cd, PySem.W.clsIn K C = some cd
  fn : ∃ (name qual : Str) (params : Arguments) (body : List Stmt) (scope : Scope) (kV doc pm ct oc : Value) (an od : Option Addr) (osl : Array (Option Value)) (cc cda : Addr) (cl : Value) (cld : Option Addr) (csl : Array (Option Value)) (ccl : Value) (cdd : Option Addr) (ccs : Array (Option Value)) (vs : Array Value) (file : Str) (tf : Tok) (j : Nat) (pa pb p0 p1 p2 p3 p4 p5 p6 p7 p8 p9 : Pos),
    K.lookup fI = some ⟨oc, od, .func (PySem.W.ksFn name qual params body scope .none kV doc pm an (.ref cda) ct cc), osl⟩ ∧ PySem.W.codeIn K (.ref cda) qual = true ∧
    params = { posonlyargs := [], args := [⟨"self", none, pa⟩, ⟨y, none, pb⟩], vararg := none, kwonlyargs := [], kw_defaults := [], kwarg := none, defaults := [] } ∧
    body = [.Expr (.Call (.Attribute (.Call (.Name "super" p0) [] [] p1) "__init__" p2) [.Constant (.str m) j p3] [] p4) p5, .Assign [.Attribute (.Name "self" p6) f p7] (.Name y p8) p9] ∧
    scope.kind = .function ∧ scope.isCoroutine = false ∧ scope.isGenerator = false ∧ (∀ x ∈ scope.names, x.2 ≠ .cell) ∧
    scope.names.lookup ("self" : Str) = some .local ∧ scope.names.lookup y = some .local ∧ scope.names.lookup ("super" : Str) = some .globalImplicit ∧ scope.names.lookup ("__class__" : Str) = some .free ∧
    InitEnv qual scope f y m j p0 p1 p2 p3 p4 p5 p6 p7 p8 p9 ∧ (∀ a b : Value, bindArgs (PySem.W.ksFn name qual params body scope .none kV doc pm an (.ref cda) ct cc) ⟨[a, b], []⟩ = pure [(("self" : Str), a), (y, b)]) ∧ (("self" : Str) == y) = false ∧ (y == ("__debug__" : Str)) = false ∧
    K.lookup cc = some ⟨cl, cld, .cell (some (.ref C)), csl⟩ ∧ K.lookup cda = some ⟨ccl, cdd, .fields vs, ccs⟩ ∧ vs[2]? = some (.str file tf) ∧ ((prog.main.file : Str) == file) = true
  htop : (prog.main.scope.names.lookup ("super" : Str)).isSome = false
def exiB (c f : Str) (B newId initId : String) (bmB : List Value) (file : Str) (K : PySem.W.Frag) : Bool :=
  He.eqO (PySem.W.findIn K (.ref (He.ga K c)) "__init__") (some (some (.ref (meA c "__init__" K)))) && (PySem.W.excInitIn K (He.ga K c) bmB newId && (PySem.W.isFn K (.ref (meA c "__init__" K)) &&
  (He.eqO (PySem.W.findIn K (.ref (He.ga K c)) "__setattr__") (some (some (.builtin "object.__setattr__"))) && (PySem.W.excOver K (He.ga K c) bmB && (decide (PySem.W.takerIn K (He.ga K c) f = some none) && (PySem.W.hasDictIn K (He.ga K c) &&
  (He.eqO (PySem.W.ks_superIn K (He.ga K c) (He.ga K c) "__init__") (some (some (.builtin initId))) && (decide (PySem.W.subIn K (.ref (He.ga K c)) (.type B) = some true) && (decide (PySem.W.subIn K (.ref (He.ga K c)) (.type "BaseException") = some true) &&
  (decide (PySem.W.typeIn K (.ref (He.ga K c)) = some (.type "type")) && (PySem.W.keepIn K (.ref (He.ga K c)) && (decide (PySem.W.nsIn K cStatics "thirdparty.any" = some none) && (decide (PySem.W.mroIn K (He.ga K c) (.ref (He.ga K c)) = some true) && ((PySem.W.clsIn K (He.ga K c)).isSome &&
  (match K.lookup (meA c "__init__" K) with
  | some ⟨_, _, .func fd, _⟩ => (match fd.defaults, fd.code, fd.closure with
    | .none, .ref cda, [(_, cc)] => PySem.W.codeIn K (.ref cda) fd.qualname && ((match K.lookup cda with
        | some ⟨_, _, .fields (vs : Array Value), _⟩ => (match (vs[2]? : Option Value) with
          | some (Value.str g _) => (file == g)
          | _ => false)
        | _ => false) && (match K.lookup cc with
        | some ⟨_, _, .cell (some (.ref C')), _⟩ => decide (C' = He.ga K c)
        | _ => false))
    | _, _, _ => false)
  | _ => false)))))))))))))))
theorem exi_fd {fd : FuncData} {g : Addr → Addr → Bool} (t : (match fd.defaults, fd.code, fd.closure with
    | .none, .ref cda, [(_, cc)] => g cda cc
    | _, _, _ => false) = true) : ∃ cda nm cc, fd.defaults = .none ∧ fd.code = .ref cda ∧ fd.closure = [(nm, cc)] ∧ g cda cc = true := by
  obtain ⟨f1, f2, f3, f4, f5, f6, f7, f8, f9, f10, f11, f12, f13, f14, f15⟩ := fd
  dsimp only at t ⊢
  cases f8 with
  | none => cases f13 with
    | ref cda => match f7, t with
      | [(nm, cc)], t => exact ⟨_, _, _, rfl, rfl, rfl, t⟩
    | _ => cases t
  | _ => cases t
open PySem.W in
theorem errI_ok {P : Program} {K : PySem.W.Frag} {c f y m qual : Str} {B newId initId : String} {bmB : List Value} {file : Str} {fa : List He.Fa} {tb : List (PySem.W.Frag → Bool)} {fn : List DefM} {scope : Scope} {j : Nat} {pa pb p0 p1 p2 p3 p4 p5 p6 p7 p8 p9 : Pos} (E : ExBase B newId initId bmB) (cc : SaysM fa tb fn K) (t : exiB c f B newId initId bmB file K = true) (i : Nat)
    (hd : fn[i]? = some ⟨meA c "__init__", "__init__", qual, { posonlyargs := [], args := [⟨"self", none, pa⟩, ⟨y, none, pb⟩], vararg := none, kwonlyargs := [], kw_defaults := [], kwarg := none, defaults := [] },
      [.Expr (.Call (.Attribute (.Call (.Name "super" p0) [] [] p1) "__init__" p2) [.Constant (.str m) j p3] [] p4) p5, .Assign [.Attribute (.Name "self" p6) f p7] (.Name y p8) p9], scope, [], ["__class__"]⟩)
    (hp : (P.main.file : Str) = file) (htop : (P.main.scope.names.lookup ("super" : Str)).isSome = false) (k1 : scope.kind = .function) (k2 : scope.isCoroutine = false) (k3 : scope.isGenerator = false) (k4 : ∀ x ∈ scope.names, x.2 ≠ .cell)
    (n1 : scope.names.lookup ("self" : Str) = some .local) (n2 : scope.names.lookup y = some .local) (n3 : scope.names.lookup ("super" : Str) = some .globalImplicit) (n4 : scope.names.lookup ("__class__" : Str) = some .free) (hev : InitEnv qual scope f y m j p0 p1 p2 p3 p4 p5 p6 p7 p8 p9)
    (hbd : ∀ (kV doc pm ct : Value) (an : Option Addr) (cda cc : Addr) (a b : Value), bindArgs (ksFn "__init__" qual { posonlyargs := [], args := [⟨"self", none, pa⟩, ⟨y, none, pb⟩], vararg := none, kwonlyargs := [], kw_defaults := [], kwarg := none, defaults := [] }
      [.Expr (.Call (.Attribute (.Call (.Name "super" p0) [] [] p1) "__init__" p2) [.Constant (.str m) j p3] [] p4) p5, .Assign [.Attribute (.Name "self" p6) f p7] (.Name y p8) p9] scope .none kV doc pm an (.ref cda) ct cc) ⟨[a, b], []⟩ = pure [(("self" : Str), a), (y, b)])
    (sy : (("self" : Str) == y) = false) (yd : (y == ("__debug__" : Str)) = false) : ErrI P K (He.ga K c) (meA c "__init__" K) f y m B newId initId bmB := by
  unfold exiB at t
  obtain ⟨t1, t⟩ := He.ba t
  obtain ⟨t2, t⟩ := He.ba t
  obtain ⟨t3, t⟩ := He.ba t
  obtain ⟨t4, t⟩ := He.ba t
  obtain ⟨t5, t⟩ := He.ba t
  obtain ⟨t6, t⟩ := He.ba t
  obtain ⟨t7, t⟩ := He.ba t
  obtain ⟨t8, t⟩ := He.ba t
  obtain ⟨t9, t⟩ := He.ba t
  obtain ⟨t10, t⟩ := He.ba t
  obtain ⟨t11, t⟩ := He.ba t
  obtain ⟨t12, t⟩ := He.ba t
  obtain ⟨t13, t⟩ := He.ba t
  obtain ⟨t14, t⟩ := He.ba t
  obtain ⟨t15, t⟩ := He.ba t
  have e : fn.map (fun d => fnM K (d.at_ K)) = fn.map DefM.val := congrArg (fun z : AlM => z.2) cc
  have e2 : (fn.map fun d => fnM K (d.at_ K))[i]? = (fn.map DefM.val)[i]? := by rw [e]
  rw [List.getElem?_map, List.getElem?_map, hd] at e2
  have e3 : fnM K (meA c "__init__" K) = DefM.val _ := Option.some.inj e2
  refine ⟨E, He.eqO_ok t1, t2, t3, He.eqO_ok t4, t5, of_decide_eq_true t6, t7, He.eqO_ok t8, of_decide_eq_true t9, of_decide_eq_true t10, of_decide_eq_true t11, t12, of_decide_eq_true t13, of_decide_eq_true t14, Option.isSome_iff_exists.mp t15, ?_, htop⟩
  split at t
  · rename_i oc od fd osl lk
    unfold fnM at e3
    rw [lk] at e3
    obtain ⟨f1, f2, f3, f4, f5, f6, f7, f8, f9, f10, f11, f12, f13, f14, f15⟩ := fd
    clear t1 t4 t8
    have e4 : (some (f1, f2, f3, f4, f5, f6, f7.map fun p => (p.1, 0), f15) : He.FnW) = some _ := e3
    unfold DefM.val at e4
    simp only [Option.some.injEq, Prod.mk.injEq] at e4
    obtain ⟨rfl, rfl, rfl, rfl, rfl, rfl, hc, rfl⟩ := e4
    obtain ⟨cda, nm, c2, rfl, rfl, rfl, t⟩ := exi_fd t
    rw [List.map_cons, List.map_nil, List.map_cons, List.map_nil] at hc
    have en : nm = "__class__" := by
      have := (List.cons.inj hc).1
      exact (Prod.mk.inj this).1
    subst en
    obtain ⟨u1, t⟩ := He.ba t
    obtain ⟨u2, u3⟩ := He.ba t
    split at u2
    · rename_i ccl cdd vs ccs lk2
      split at u2
      · rename_i g tf hv
        split at u3
        · rename_i cl cld C' csl lk3
          have eC : C' = He.ga K c := of_decide_eq_true u3
          subst eC
          exact ⟨_, _, _, _, _, _, _, _, _, _, _, _, _, _, _, _, _, _, _, _, _, _, _, _, _, pa, pb, p0, p1, p2, p3, p4, p5, p6, p7, p8, p9, lk, u1, rfl, rfl, k1, k2, k3, k4, n1, n2, n3, n4, hev, fun a b => hbd _ _ _ _ _ _ _ a b, sy, yd, lk3, lk2, hv, by rw [hp]; exact u2⟩
        · cases u3
      · cases u2
    · cases u2
  · cases t
section
variable [Lam] [Pins] {X : Cx} {W : WX}
/-- raise C(e) -/
def xRaiseI (c f : Str) (fe : M D) : M Fl := fun ρ => (fe ρ).bind fun d ρ => .exc ⟨.own c, [(f, d)]⟩ ρ
end
end Mr
namespace Mr
open PySem PySem.Spec PyProof.Rows L2
end Mr
namespace Pm
open PySem PySem.Spec PyProof.Rows L2 Mr
def c_GREATEST : Int := 99999999999999999999999999999999999999999999999999999999999999999999999999999999999999999999999999999999999999999999999999999999999999999999999999999999999999999999999999999999999999999999999999999999
def c_WIDEST : Int := 4
def c_NULL : Str := Str.ofString "null"
def c_LEAST : Str := Str.ofString "least"
def c_MORE : Str := Str.ofString "more"
def c_MAX_ROWS : Int := 6
def c_MAX_SIZE : Int := 99999999999999999999
def c_MAX_STRANDS : Int := 12
def c_MAX_WIDTH : Int := 4
def c_MAX_LETTERS : Int := 8
end Pm
namespace K28
open PySem PySem.Spec PyProof.Rows L2 Mr Pm
def topS (i : Nat) : Stmt := PySem.Challenge.pw_staystarts_k28_whole_systems_by_their_ru.main.body.getD i (.Pass ⟨0, 0, 0, 0⟩)
def ls : List LamM := []
instance lamI : Lam := ⟨lamT ls⟩
def fn : List DefM := [
  ⟨glA "is_integer", "is_integer", "is_integer", defArgs (topS 4), defBody (topS 4), defScope (topS 4), [], []⟩,
  ⟨glA "is_row", "is_row", "is_row", defArgs (topS 6), defBody (topS 6), defScope (topS 6), [], []⟩,
  ⟨glA "is_row_within", "is_row_within", "is_row_within", defArgs (topS 7), defBody (topS 7), defScope (topS 7), [], []⟩,
  ⟨glA "is_strand_of", "is_strand_of", "is_strand_of", defArgs (topS 24), defBody (topS 24), defScope (topS 24), [], []⟩,
  ⟨glA "are_strands", "are_strands", "are_strands", defArgs (topS 25), defBody (topS 25), defScope (topS 25), [], []⟩,
  ⟨meA "System" "__init__", "__init__", "System.__init__", defArgs (inCls (topS 26) 0), defBody (inCls (topS 26) 0), defScope (inCls (topS 26) 0), [], []⟩,
  ⟨glA "_law_bowl", "_law_bowl", "_law_bowl", defArgs (topS 30), defBody (topS 30), defScope (topS 30), [], []⟩,
  ⟨glA "_law_bit", "_law_bit", "_law_bit", defArgs (topS 31), defBody (topS 31), defScope (topS 31), [], []⟩,
  ⟨glA "_law_pick", "_law_pick", "_law_pick", defArgs (topS 32), defBody (topS 32), defScope (topS 32), [], []⟩,
  ⟨glA "_law_small", "_law_small", "_law_small", defArgs (topS 34), defBody (topS 34), defScope (topS 34), [], []⟩,
  ⟨glA "_law_line", "_law_line", "_law_line", defArgs (topS 35), defBody (topS 35), defScope (topS 35), [], []⟩,
  ⟨glA "_law_strand", "_law_strand", "_law_strand", defArgs (topS 36), defBody (topS 36), defScope (topS 36), [], []⟩,
  ⟨glA "_law_dealt", "_law_dealt", "_law_dealt", defArgs (topS 33), defBody (topS 33), defScope (topS 33), [], []⟩,
  ⟨glA "_law_pack", "_law_pack", "_law_pack", defArgs (topS 37), defBody (topS 37), defScope (topS 37), [], []⟩,
  ⟨meA "System" "with_strand", "with_strand", "System.with_strand", defArgs (inCls (topS 26) 5), defBody (inCls (topS 26) 5), defScope (inCls (topS 26) 5), [], []⟩,
  ⟨pgA "System" "strands", "strands", "System.strands", defArgs (inCls (topS 26) 1), defBody (inCls (topS 26) 1), defScope (inCls (topS 26) 1), [], []⟩,
  ⟨glA "_law_told", "_law_told", "_law_told", defArgs (topS 40), defBody (topS 40), defScope (topS 40), [], []⟩,
  ⟨glA "_law_bent_strand", "_law_bent_strand", "_law_bent_strand", defArgs (topS 41), defBody (topS 41), defScope (topS 41), [], []⟩,
  ⟨glA "_law_near", "_law_near", "_law_near", defArgs (topS 42), defBody (topS 42), defScope (topS 42), [], []⟩,
  ⟨meA "System" "__len__", "__len__", "System.__len__", defArgs (inCls (topS 26) 10), defBody (inCls (topS 26) 10), defScope (inCls (topS 26) 10), [], []⟩,
  ⟨glA "_law_is_line", "_law_is_line", "_law_is_line", defArgs (topS 38), defBody (topS 38), defScope (topS 38), [], []⟩,
  ⟨glA "_law_is_pack", "_law_is_pack", "_law_is_pack", defArgs (topS 39), defBody (topS 39), defScope (topS 39), [], []⟩,
  ⟨glA "is_integer_within", "is_integer_within", "is_integer_within", defArgs (topS 5), defBody (topS 5), defScope (topS 5), [], []⟩,
  ⟨glA "require_index", "require_index", "require_index", defArgs (topS 27), defBody (topS 27), defScope (topS 27), [], []⟩,
  ⟨meA "System" "without_strand", "without_strand", "System.without_strand", defArgs (inCls (topS 26) 6), defBody (inCls (topS 26) 6), defScope (inCls (topS 26) 6), [], []⟩,
  ⟨glA "law", "law", "law", defArgs (topS 43), defBody (topS 43), defScope (topS 43), [], []⟩,
  ⟨meA "InvalidNumber" "__init__", "__init__", "InvalidNumber.__init__", defArgs (inCls (topS 11) 0), defBody (inCls (topS 11) 0), defScope (inCls (topS 11) 0), [], ["__class__"]⟩]
def fa : List He.Fa := [.glo "is_integer", .glo "is_row", .glo "is_row_within", .glo "is_strand_of", .glo "are_strands", .mkr "System", .glo "_law_bowl", .glo "_law_bit", .glo "_law_pick", .glo "_law_small", .glo "_law_line", .glo "_law_strand", .glo "_law_dealt", .glo "_law_pack", .meth "System" "with_strand", .glo "_law_told", .glo "_law_bent_strand", .glo "_law_near", .meth "System" "__len__", .glo "_law_is_line", .glo "_law_is_pack", .glo "is_integer_within", .glo "require_index", .meth "System" "without_strand", .glo "law", .glo "InvalidNumber", .glo "InvalidSystem", .glo "System", .cls "System", .exc "InvalidSystem", .exm "InvalidNumber" "InvalidSystem" false, .exm "InvalidSystem" "InvalidSystem" true, .noat "System" "own_strands", .noat "System" "own_width", .int "GREATEST" c_GREATEST, .str "LEAST" c_LEAST, .int "MAX_ROWS" c_MAX_ROWS, .int "MAX_SIZE" c_MAX_SIZE, .int "MAX_STRANDS" c_MAX_STRANDS, .int "MAX_WIDTH" c_MAX_WIDTH, .str "MORE" c_MORE, .str "NULL" c_NULL, .int "WIDEST" c_WIDEST, .free "abs", .free "all", .free "any", .free "bool", .free "int", .free "isinstance", .free "len", .free "list", .free "max", .free "min", .free "range", .free "repr", .free "str", .free "super", .free "tuple"]
def tb : List (PySem.W.Frag → Bool) := [propB "System" "strands", exiB "InvalidNumber" "value" "IndexError" "IndexError.__new__" "IndexError.__init__" bmIndex "/claim/cut.py"]
def loose0 : List Str := ["_wall", "WIDEST", "GREATEST", "is_integer", "is_integer_within", "is_row", "is_row_within", "LoopError", "InvalidSystem", "InvalidNumber", "value_by", "MAX_WIDTH", "MAX_STRANDS", "MAX_ROWS", "MAX_SIZE", "MORE", "LEAST", "NULL", "first_sign", "is_met"]
def loose1 : List Str := ["is_strand_of", "are_strands", "System", "require_index", "meets", "_law_bowl", "_law_bit", "_law_pick", "_law_dealt", "_law_small", "_law_line", "_law_strand", "_law_pack", "_law_is_line", "_law_is_pack", "_law_told", "_law_bent_strand", "_law_near"]
def loose : List Str := loose0 ++ loose1
def wd : WdL := []
abbrev hk : PySem.W.Hook := hookM 9 fa tb fn ls wd
def ob (s : PySem.W.SharedT) : AlX := obsMG 9 fa tb fn ls wd (HandSHeadRun.getT s)
theorem ob_eq (s : PySem.W.SharedT) : ob s = hk.obs s.abs := obsMG_eq (HandSHeadRun.getT_eq s)
theorem run (w : World) : HandSHeadRun.RunEq RR (PySem.W.view RR.prog [43]) hk ob 8000 loose w := by
  intro os
  kernel_rfl
end K28
namespace Mr
open PySem PySem.Spec PyProof.Rows L2
variable [Lam] [Pins]
section
variable {X : Cx} {W : WX} {k : Nat} {f : Addr} {fd : FuncData} {ps : List Str} {sp : Sp} {pins : List (Addr × Obj)} {σ : L2.St} {H : Hp} {s : Shared} {Q : VK} {c : Str} {m : List D → FR D}
end
end Mr
namespace Mr
open PySem PySem.Spec PyProof.Rows L2
def keyPy : Key → PyData
  | .inl i => .int i
  | .inr x => .str x
mutual
def pyX : D → PyData
  | .non => .none
  | .bl b => .bool b
  | .int i => .int i
  | .str x => .str x
  | .tup xs => .tuple (pyXs xs)
  | .lst xs => .list (pyXs xs)
  | .dct ks ds => .dict ((ks.map keyPy).zip (pyXs ds))
  | _ => .none
def pyXs : List D → List PyData
  | [] => []
  | x :: xs => pyX x :: pyXs xs
end
mutual
/-- data at most so deep, with dicts -/
def okX : Nat → D → Bool
  | _, .non => true
  | _, .bl _ => true
  | _, .int _ => true
  | _, .str _ => true
  | n, .tup xs => match n with | 0 => false | n + 1 => okXs n xs
  | n, .lst xs => match n with | 0 => false | n + 1 => okXs n xs
  | n, .dct ks ds => match n with | 0 => false | n + 1 => decide (ks.length = ds.length) && okXs n ds
  | _, _ => false
def okXs : Nat → List D → Bool
  | _, [] => true
  | n, x :: xs => okX n x && okXs n xs
end
section
variable {X : Cx} {pins : List (Addr × Obj)} {σ : L2.St} {H : Hp} {s : Shared}
end
variable [Lam] [Pins]
end Mr
namespace Mr
open PySem PySem.Spec PyProof.Rows L2
variable [Lam] [Pins]
theorem reps_strs {K : PySem.W.Frag} {F : Hp} : ∀ (ys : List Str), Reps K F (ys.map V.str) (ys.map D.str)
  | [] => .nil
  | y :: ys => .cons (.str y) (reps_strs ys)
def splitN : D → D → FR (List D)
  | .str a, .str b => if (b.length == 0) = false ∧ a.length + 2 ≤ sizeLine then .ok ((Txt.split a b).map D.str) else .stuck
  | _, _ => .stuck
def wordsN : D → FR (List D)
  | .str a => if a.length + 2 ≤ sizeLine then .ok ((Txt.words a).map D.str) else .stuck
  | _ => .stuck
def mUnN (g : D → FR (List D)) (fo : M D) : M (List D) := fun ρ => (fo ρ).bind fun d ρ => (g d).lift ρ
/-- the object must be a text before the argument is read -/
def mSplitN (fo fe : M D) : M (List D) := fun ρ => (fo ρ).bind fun d ρ => match d with
  | .str a => (fe ρ).bind fun x ρ => (splitN (.str a) x).lift ρ
  | _ => .stuck
def upperD : D → FR D
  | .str a => if a.length ≤ 5592405 then .ok (.str (Txt.upper a)) else .stuck
  | _ => .stuck
section
variable {X : Cx} {W : WX} {o e : Expr} {fo fe : M D} {pos : Pos}
theorem AN.split {apos : Pos} (ho : AE X W o fo) (he : AE X W e fe) (hs : starEach [e] X.env = [(false, eval e X.env)] := by rfl) (hbase : attributeBase o "split" X.env (eval o X.env) = eval o X.env := by rfl) (hline : (apos.endLine == pos.line) = true := by rfl) :
    AN X W (.Call (.Attribute o "split" apos) [e] [] pos) (mSplitN fo fe) := by
  obtain ⟨to, po, qo⟩ := ho
  obtain ⟨te, pe, qe⟩ := he
  refine ⟨_, pe_split po pe hs hbase hline, fun G σ H F ρ Q S hg => qo G σ H F ρ _ S (hg.bind fun d ρ1 H1 F1 S1 s1 g1 v r1 => ?_)⟩
  cases r1 with
  | str a =>
    refine ⟨⟨a, rfl⟩, qe G σ H1 F1 ρ1 _ S1 (g1.bind fun d2 ρ2 H2 F2 S2 s2 g2 u r2 => ?_)⟩
    cases r2 with
    | str b =>
      unfold splitN at g2
      simp only at g2
      split at g2
      · rename_i hz
        exact ⟨a, b, rfl, rfl, hz.1, hz.2, fun p hp => newOwn S2 (reps_strs _) g2 hp⟩
      · exact g2.elim
    | _ => exact g2.elim
  | _ => exact g1.elim
theorem AN.words {apos : Pos} (ho : AE X W o fo) (hbase : attributeBase o "split" X.env (eval o X.env) = eval o X.env := by rfl) (hline : (apos.endLine == pos.line) = true := by rfl) :
    AN X W (.Call (.Attribute o "split" apos) [] [] pos) (mUnN wordsN fo) := by
  obtain ⟨to, po, qo⟩ := ho
  refine ⟨_, pe_words po hbase hline, fun G σ H F ρ Q S hg => qo G σ H F ρ _ S (hg.bind fun d ρ1 H1 F1 S1 s1 g1 v r1 => ?_)⟩
  cases r1 with
  | str a =>
    unfold wordsN at g1
    simp only at g1
    split at g1
    · rename_i hz
      exact ⟨⟨a, rfl⟩, a, rfl, rfl, hz, fun p hp => newOwn S1 (reps_strs _) g1 hp⟩
    · exact g1.elim
  | _ => exact g1.elim
theorem AE.upper {apos : Pos} (ho : AE X W o fo) (hbase : attributeBase o "upper" X.env (eval o X.env) = eval o X.env := by rfl) (hline : (apos.endLine == pos.line) = true := by rfl) :
    AE X W (.Call (.Attribute o "upper" apos) [] [] pos) (m1 upperD fo) := by
  obtain ⟨to, po, qo⟩ := ho
  refine ⟨_, pe_upper po hbase hline, fun G σ H F ρ Q S hg => qo G σ H F ρ _ S (hg.bind fun d ρ1 H1 F1 S1 s1 g1 v r1 => ?_)⟩
  cases r1 with
  | str a =>
    unfold upperD at g1
    simp only at g1
    split at g1
    · rename_i hz
      exact ⟨⟨a, rfl⟩, a, rfl, rfl, hz, g1 H1 F1 S1 Sm.refl _ (.str _)⟩
    · exact g1.elim
  | _ => exact g1.elim
end
section
variable {X : Cx} {W : WX}
end
end Mr
namespace Mr
open PySem PySem.Spec PyProof.Rows L2 LiI
variable [Lam] [Pins]
/-- dict(list(e.items())) -/
def mCopyD (fe : M D) : M (List Key × List D) := fun ρ => (fe ρ).bind fun d ρ => match d with
  | .dct ks ds => if ks.Nodup then .ok (ks, ds) ρ else .stuck
  | _ => .stuck
theorem paired_sq {K : PySem.W.Frag} {H' : Hp} {ts : List Addr} {kvs : List (Key × V)} (h : Paired (fun (t : Addr) (q : Key × V) => H' t = some (.tup [kV q.1, q.2])) ts kvs) : Paired (fun (t : Addr) (q : Key × V) => SqT K H' t [kV q.1, q.2]) ts kvs := by
  induction h with
  | nil => exact .nil
  | cons a _ ih => exact .cons (.of a) ih
section
variable {X : Cx} {W : WX} {e : Expr} {fe : M D} {p p2 apos cpos lpos pos : Pos}
theorem AND.copy (hc : X.calm = true) (hg : Gl X "dict") (hm : X.mg "dict" = none) (hg2 : Gl X "list") (hm2 : X.mg "list" = none) (he : AE X W e fe) (hbase : attributeBase e "items" X.env (eval e X.env) = eval e X.env := by rfl) (hline : (apos.endLine == cpos.line) = true := by rfl)
    (hs : starEach [.Call (.Attribute e "items" apos) [] [] cpos] X.env = (false, eval (.Call (.Attribute e "items" apos) [] [] cpos) X.env) :: starEach [] X.env := by rfl)
    (hs2 : starEach [.Call (.Name "list" p2) [.Call (.Attribute e "items" apos) [] [] cpos] [] lpos] X.env = (false, eval (.Call (.Name "list" p2) [.Call (.Attribute e "items" apos) [] [] cpos] [] lpos) X.env) :: starEach [] X.env := by rfl)
    (hpl : (backTo pos (starEach [] X.env)).any (·.1) = false := by rfl) :
    AND X W (.Call (.Name "dict" p) [.Call (.Name "list" p2) [.Call (.Attribute e "items" apos) [] [] cpos] [] lpos] [] pos) (mCopyD fe) := by
  obtain ⟨t, pe, qe⟩ := he
  refine ⟨_, pe_callTy (T := "dict") (call_dictP hc) hg hm (by decide +kernel) (pa_cons (pe_listItems hc pe hg2 hm2 (by decide +kernel) hbase hline hs) pa_nil hs2) (by decide) (by decide) hs2 hpl, fun G σ H F ρ Q S hgd => qe G σ H F ρ _ S (hgd.bind fun d ρ1 H1 F1 S1 s1 g1 v r1 => ?_)⟩
  cases r1 with
  | dct h1 l h3 =>
    rename_i a0 ks vs ds
    simp only [mCopyD] at g1
    split at g1
    · rename_i hn
      refine ⟨_, _, rfl, S1.sub _ _ h1, fun H' q ts k hq hts hqt e1 e2 => ?_⟩
      refine ⟨q, ts, ks.zip vs, rfl, .of e1, paired_sq e2, fun p0 np => ?_⟩
      have em : mergeK [] (ks.zip vs) = ks.zip vs := by
        rw [merge_nodup _ [] (by rw [List.nil_append, List.map_fst_zip (by omega)]; exact hn)]; rfl
      rw [em]
      have S2 : Stt X.K G σ H' F1 ρ1 := S1.grow (Sm.t fun b o z => k b o z) (fun b o z => k b o (S1.sub b o z)) Sm.refl (fun a o z => .inl z) S1.ft
      exact g1 H' F1 S2 Sm.refl p0 vs _ (S2.xtNew np) l h3
    · exact g1.elim
  | _ => exact g1.elim
end
end Mr
namespace SrtR
open PySem PyProof.Rows Srt SrtO
section
variable {prog : Program} {w : World} {A : Around} {E : Value → Shared → Prop} {s : Shared}
end
end SrtR
namespace Mr
open PySem PySem.Spec PyProof.Rows L2
section
variable [Lam] [Pins]
variable {X : Cx} {W : WX} {e : Expr} {fa : M D} {pos : Pos}
end
variable [Lam] [Pins]
section
variable {X : Cx} {W : WX} {e : Expr} {fa : M D} {pos : Pos}
end
end Mr
namespace Mr
open PySem PySem.Spec PyProof.Rows
abbrev ZipO (f0 : Value) (b : Bool) (TI TO : Addr) : Obj := { cls := .type "zip", dict := none, data := .fields #[f0, .bool b, .bool false, .ref TI, .ref TO], slots := #[] }
/-- n iterators from N on -/
def refsF (N : Nat) (n : Nat) : List Value := (List.range n).map fun k => .ref (N + k)
abbrev TupO (vs : List Value) : Obj := { cls := .type "tuple", data := .seq vs.toArray }
theorem wpAny_loadIfAlive {M : Model} {A : Around} {E : Value → Shared → Prop} {s : Shared} {a : Addr} {Q : Option Obj → Shared → Prop} (h : Q (s.heap.get? a) s) : wpAny M A (loadIfAlive a) Q E s := fun _ _ _ => h
theorem nea {a b : Nat} (h : a < b ∨ b < a) : a ≠ b := fun e => by omega
def FreeF (f0 : Value) : Prop := f0 = .none ∨ ∃ T, f0 = rawInt T
/-- the cells of a zip over n tuples (at ad), its iterators at f -/
structure ZSt (N n : Nat) (ad : Nat → Nat) (f : Nat → Nat) (f0 : Value) (b : Bool) (vs : List Value) (h : Heap) : Prop where
  z : h.get? (N + n + 2) = some (ZipO f0 b (N + n) (N + n + 1))
  ti : h.get? (N + n) = some (TupO (refsF N n))
  to : h.get? (N + n + 1) = some (TupO vs)
  lv : vs.length = n
  it : ∀ k, k < n → h.IsTupleIter (N + k) (ad k) (f k)
theorem refsF_get {N n k : Nat} {v : Value} (h : (refsF N n)[k]? = some v) : k < n ∧ v = .ref (N + k) := by
  unfold refsF at h
  rw [List.getElem?_map] at h
  by_cases l : k < n
  · rw [List.getElem?_range l] at h
    exact ⟨l, by simpa using h.symm⟩
  · rw [List.getElem?_eq_none (by simp; omega)] at h
    cases h
theorem drop_cons {α : Type} {l rest : List α} {x : α} {k : Nat} (h : x :: rest = l.drop k) : l[k]? = some x ∧ rest = l.drop (k + 1) := by
  refine ⟨?_, ?_⟩
  · have := congrArg (·[0]?) h
    simpa using this.symm
  · have := congrArg List.tail h
    rw [List.tail_cons, List.tail_drop] at this
    exact this
section
variable {prog : Program} {w : World} {A : Around} {E : Value → Shared → Prop} {s : Shared}
theorem free_or {z TI TO : Addr} {f0 : Value} {b : Bool} {Q : Bool → Shared → Prop} (hz : s.heap.get? z = some (ZipO f0 b TI TO)) (hf : FreeF f0)
    (h1 : Q true s) (h2 : ∀ h', h'.get? z = some (ZipO f0 true TI TO) → Heap.SameBut z s.heap h' → Q false { s with heap := h' }) : wpAny (model prog w) A (Builtin.SmallTypes.ownedTupleIsFree (.ref z)) Q E s := by
  unfold Builtin.SmallTypes.ownedTupleIsFree
  refine wpAny_bind (wpAny_field hz rfl (x := f0) rfl ?_)
  rcases hf with rfl | ⟨T, rfl⟩
  · exact wpAny_pure h1
  · show wpAny _ _ (loadIfAlive _ >>= _) _ _ _
    refine wpAny_bind (wpAny_loadIfAlive ?_)
    split
    · exact wpAny_pure h1
    · refine wpAny_bind (wpAny_field hz rfl (x := .bool b) rfl ?_)
      have e0 : Heap.SameBut z s.heap s.heap := ⟨rfl, fun _ _ => rfl⟩
      cases b with
      | true => exact wpAny_bind (wpAny_pure (wpAny_pure (h2 s.heap hz e0)))
      | false => exact wpAny_bind (wpAny_setField_rec hz (by simp) fun h' hz' hs' => wpAny_pure (h2 h' hz' hs'))
end
/-- outside of the zip's cells -/
def OutZ (N n : Nat) (h h' : Heap) : Prop := ∀ (c : Nat) o, (c < N ∨ N + n + 2 < c) → h.get? c = some o → h'.get? c = some o
theorem OutZ.tr {N n : Nat} {h h' h'' : Heap} (a : OutZ N n h h') (b : OutZ N n h' h'') : OutZ N n h h'' := fun c o hc e => b c o hc (a c o hc e)
theorem OutZ.same {N n : Nat} {h h' : Heap} {x : Nat} (hs : Heap.SameBut x h h') (h1 : N ≤ x) (h2 : x ≤ N + n + 2) : OutZ N n h h' := fun c o hc e => hs.extBut c o (nea (by omega)) e
theorem OutZ.tup {N n : Nat} {h h' : Heap} {a : Nat} {its : Array Value} (o : OutZ N n h h') (ha : a < N) (t : h.IsTuple a its) : h'.IsTuple a its := t.at fun u e => o a u (.inl ha) e
section
variable {prog : Program} {w : World} {A : Around} {E : Value → Shared → Prop} {s : Shared} {N n i : Nat} {ad : Nat → Nat} {its : Nat → Array Value} {f0 : Value} {b : Bool} {vs : List Value}
theorem zip_draw {h : Heap} {Q : Value → Shared → Prop} {k : Nat} (ha : ad k < N) (hh : A.handled = none) (hi : i < (its k).size) (hit : s.heap.IsTupleIter (N + k) (ad k) i) (ht : s.heap.IsTuple (ad k) (its k))
    (hQ : ∀ x h' tk, (its k)[i]? = some x → h'.IsTupleIter (N + k) (ad k) (i + 1) → Heap.SameBut (N + k) s.heap h' → Q x { s with heap := h', toks := tk }) :
    wpAny (model prog w) A (Builtin.SmallTypes.nextOf (.ref (N + k))) Q E s :=
  (Draws.tuple hh (N + k) (ad k) (nea (by omega)) (its k)).item i s Q E hi ⟨hit, ht⟩ fun x h' tk p1 p2 p3 => hQ x h' tk p1 p2.1 p3
theorem zip_itk {h h' : Heap} {x k j : Nat} {a : Nat} (hs : Heap.SameBut x h h') (t : h.IsTupleIter (N + k) a j) (ne : N + k ≠ x) : h'.IsTupleIter (N + k) a j := t.at fun o e => hs.extBut _ o ne e
theorem zipN_next_item {Q : Value → Shared → Prop} (hh : A.handled = none) (S : ZSt N n ad (fun _ => i) f0 b vs s.heap) (hf : FreeF f0) (h0 : 0 < n) (hn : n ≤ sizeLine) (ha : ∀ k, k < n → ad k < N) (ht : ∀ k, k < n → s.heap.IsTuple (ad k) (its k)) (hi : ∀ k, k < n → i < (its k).size)
    (hQ : ∀ ws f0' b' vs' h' tk, ws.length = n → (∀ k, k < n → ws[k]? = (its k)[i]?) → ZSt N n ad (fun _ => i + 1) f0' b' vs' h' → FreeF f0' → h'.get? s.heap.objs.size = some (TupO ws) → OutZ N n s.heap h' → Q (.ref s.heap.objs.size) { s with heap := h', toks := tk }) :
    wpAny (model prog w) A (Builtin.«zip.__next__» ⟨[.ref (N + n + 2)], []⟩) (fun fin s' => ∃ v, fin = .done (.ret v) ∧ Q v s') E s := by
  obtain ⟨hp, g, d, tk0, os⟩ := s
  have hz := S.z
  show wpAny _ _ (field (.ref (N + n + 2)) 2 >>= _) _ _ _
  refine wpAny_bind (wpAny_field hz rfl (x := .bool false) rfl ?_)
  show wpAny _ _ (field (.ref (N + n + 2)) 3 >>= _) _ _ _
  refine wpAny_bind (wpAny_field hz rfl (x := .ref (N + n)) rfl ?_)
  refine wpAny_bind (wpAny_seqItems S.ti rfl ?_)
  have lr : (refsF N n).length = n := by simp [refsF]
  have ne : (refsF N n).toArray.isEmpty = false := by
    cases e : refsF N n with
    | nil => rw [e] at lr; simp at lr; omega
    | cons x l => simp
  simp only [ne]
  show wpAny _ _ (Builtin.SmallTypes.ownedTupleIsFree (.ref (N + n + 2)) >>= _) _ _ _
  have hlt : N + n + 2 < hp.objs.size := Heap.lt_size hz
  refine wpAny_bind (free_or hz hf ?_ ?_)
  · simp only [if_true]
    refine wpAny_bind (wpAny_rule ?_)
    refine wpAny_bind (wpAny_field hz rfl (x := .ref (N + n + 1)) rfl ?_)
    refine wpAny_bind (wpAny_setField_rec hz (by simp) fun g0 hz0 hs0 => ?_)
    refine wpAny_bind ?_
    replace hs0 : Heap.SameBut (N + n + 2) hp g0 := hs0
    replace hz0 : g0.get? (N + n + 2) = some (ZipO .ellipsis b (N + n) (N + n + 1)) := hz0
    refine wpAny_forIn_list _ (fun rest r s' => r.1 = none ∧ ∃ k h1 tk ws, rest = (refsF N n).zipIdx.drop k ∧ k ≤ n ∧ s' = ⟨h1, g, d, tk, os⟩ ∧ h1.objs.size = hp.objs.size ∧ ZSt N n ad (fun j => if j < k then i + 1 else i) .ellipsis b ws h1 ∧ (∀ j, j < k → ws[j]? = (its j)[i]?) ∧ OutZ N n hp h1) _ ?_ ?_ _ _ ⟨rfl, 0, g0, tk0, vs, rfl, Nat.zero_le _, rfl, hs0.1, ⟨hz0, ?_, ?_, S.lv, fun k hk => ?_⟩, fun j hj => absurd hj (Nat.not_lt_zero _), OutZ.same hs0 (by omega) (by omega)⟩
    · rintro ⟨x, j⟩ rest r s' ⟨hr, k, h1, tk, ws, e, hk, rfl, hsz, S1, hw, out⟩
      obtain ⟨e1, e2⟩ := drop_cons e
      have e3 : (refsF N n)[k]? = some x ∧ k = j := by
        rw [List.getElem?_zipIdx] at e1
        cases e4 : (refsF N n)[k]? with
        | none => rw [e4] at e1; cases e1
        | some y =>
          rw [e4] at e1
          have e1 : (y, 0 + k) = (x, j) := Option.some.inj e1
          cases e1
          exact ⟨rfl, (Nat.zero_add k).symm⟩
      obtain ⟨e3, rfl⟩ := e3
      obtain ⟨lk, rfl⟩ := refsF_get e3
      refine wpAny_bind (wpAny_onRaise ?_)
      show wpAny _ _ (Builtin.SmallTypes.nextOf (.ref (N + k)) >>= _) _ _ _
      have S1k := S1.it k lk
      rw [if_neg (Nat.lt_irrefl _)] at S1k
      refine wpAny_bind (zip_draw (s := ⟨h1, g, d, tk, os⟩) (h := h1) (ha k lk) hh (hi k lk) S1k (out.tup (ha k lk) (ht k lk)) fun y h2 tk2 hy it2 hs2 => wpAny_pure ?_)
      replace hs2 : Heap.SameBut (N + k) h1 h2 := hs2
      have o2 : OutZ N n h1 h2 := OutZ.same hs2 (by omega) (by omega)
      have hto2 : h2.get? (N + n + 1) = some (TupO ws) := hs2.extBut _ _ (nea (by omega)) S1.to
      refine wpAny_bind (wpAny_seqItems (s := ⟨h2, g, d, tk2, os⟩) hto2 rfl ?_)
      have lws : ws.toArray.size = n := by rw [List.size_toArray]; exact S1.lv
      refine wpAny_bind (wpAny_updateSeq (s := ⟨h2, g, d, tk2, os⟩) hto2 rfl ?_ (by rw [lws]; exact hn) (by rw [Array.size_setIfInBounds, lws]; omega))
      refine wpAny_bind (wpAny_letGo (wpAny_pure ⟨rfl, k + 1, _, tk2, ws.set k y, e2, lk, rfl, ?_, ⟨?_, ?_, ?_, by rw [List.length_set]; exact S1.lv, fun j hj => ?_⟩, fun j hj => ?_, ?_⟩))
      · show (h2.update (N + n + 1) _).objs.size = _
        rw [(Heap.SameBut.update ..).1, hs2.1, hsz]
      · exact (Heap.SameBut.update ..).extBut _ _ (nea (by omega)) (hs2.extBut _ _ (nea (by omega)) S1.z)
      · exact (Heap.SameBut.update ..).extBut _ _ (nea (by omega)) (hs2.extBut _ _ (nea (by omega)) S1.ti)
      · rw [Heap.get?_update_self _ hto2 rfl]
        simp [Obj.mapSeq, TupO]
      · by_cases hjk : j = k
        · subst hjk
          rw [if_pos (Nat.lt_succ_self _)]
          exact zip_itk (Heap.SameBut.update ..) it2 (nea (by omega))
        · have q := S1.it j hj
          have e5 : (if j < k + 1 then i + 1 else i) = (if j < k then i + 1 else i) := by
            by_cases l : j < k
            · rw [if_pos l, if_pos (by omega)]
            · rw [if_neg l, if_neg (by omega)]
          show Heap.IsTupleIter _ _ _ (if j < k + 1 then i + 1 else i)
          rw [e5]
          exact zip_itk (Heap.SameBut.update ..) (zip_itk hs2 q (nea (by omega))) (nea (by omega))
      · by_cases hjk : j = k
        · subst hjk
          rw [List.getElem?_set_self (by rw [S1.lv]; exact lk), hy]
        · rw [List.getElem?_set_ne (fun e => hjk e.symm)]
          exact hw j (by omega)
      · exact out.tr (o2.tr (OutZ.same (Heap.SameBut.update ..) (by omega) (by omega)))
    · rintro ⟨r1, r2⟩ s' ⟨hr, k, h1, tk, ws, e, hk, rfl, hsz, S1, hw, out⟩
      have hr : r1 = none := hr
      subst hr
      have ek : k = n := by
        have := congrArg List.length e
        rw [List.length_drop, List.length_zipIdx, lr] at this
        simp at this
        omega
      subst ek
      refine wpAny_bind (wpAny_seqItems (s := ⟨h1, g, d, tk, os⟩) S1.to rfl ?_)
      refine wpAny_bind (wpAny_newTuple ?_ (by show ws.length ≤ _; rw [S1.lv]; exact hn))
      have hz6 : (h1.push (TupO ws)).get? (N + k + 2) = some (ZipO .ellipsis b (N + k) (N + k + 1)) := Heap.get?_push_of_some _ S1.z
      unfold Builtin.SmallTypes.ownedTupleHandOut
      show wpAny _ _ ((setField (.ref (N + k + 2)) 0 (rawInt h1.objs.size) >>= fun _ => setField (.ref (N + k + 2)) 1 (.bool false)) >>= _) _ _ ⟨h1.push (TupO ws), g, d, tk, os⟩
      refine wpAny_bind (wpAny_bind (wpAny_setField_rec hz6 (by simp) fun h7 hz7 hs7 => wpAny_setField_rec hz7 (by simp) fun h8 hz8 hs8 => ?_))
      replace hs7 : Heap.SameBut (N + k + 2) (h1.push (TupO ws)) h7 := hs7
      replace hs8 : Heap.SameBut (N + k + 2) h7 h8 := hs8
      have up : ∀ (c : Nat) o, c ≠ N + k + 2 → h1.get? c = some o → h8.get? c = some o := fun c o ne e => hs8.extBut _ _ ne (hs7.extBut _ _ ne (Heap.get?_push_of_some _ e))
      refine wpAny_pure ⟨_, rfl, ?_⟩
      rw [hsz]
      refine hQ ws (rawInt hp.objs.size) false ws h8 tk S1.lv hw ⟨?_, up _ _ (nea (by omega)) S1.ti, up _ _ (nea (by omega)) S1.to, S1.lv, fun j hj => ?_⟩ (.inr ⟨_, rfl⟩) ?_ fun c o hc e => up c o (nea (by omega)) (out c o hc e)
      · rw [← hsz]; exact hz8
      · have q := S1.it j hj
        rw [if_pos hj] at q
        exact q.at fun o e => up _ o (nea (by omega)) e
      · show h8.get? hp.objs.size = _
        rw [← hsz]
        refine hs8.extBut _ _ (nea (by omega)) (hs7.extBut _ _ (nea (by omega)) (Heap.get?_push_size _ rfl))
    · exact hs0.extBut _ _ (nea (by omega)) S.ti
    · exact hs0.extBut _ _ (nea (by omega)) S.to
    · exact zip_itk hs0 (S.it k hk) (nea (by omega))
  · intro h' hz' hs'
    simp only [Bool.false_eq_true, if_false]
    replace hs' : Heap.SameBut (N + n + 2) hp h' := hs'
    refine wpAny_bind (MeetsSeq2.wpAny_forIn_array _ (fun rest r s' => r.1 = none ∧ ∃ k h1 tk, rest = (refsF N n).drop k ∧ k ≤ n ∧ s' = ⟨h1, g, d, tk, os⟩ ∧ h1.objs.size = hp.objs.size ∧ ZSt N n ad (fun j => if j < k then i + 1 else i) f0 true vs h1 ∧ r.2.size = k ∧ (∀ j, j < k → r.2[j]? = (its j)[i]?) ∧ OutZ N n hp h1) _ ?_ ?_ _ _ ⟨rfl, 0, h', tk0, rfl, Nat.zero_le _, rfl, hs'.1, ⟨hz', ?_, ?_, S.lv, fun k hk => ?_⟩, rfl, fun j hj => absurd hj (Nat.not_lt_zero _), OutZ.same hs' (by omega) (by omega)⟩)
    · rintro x rest r s' ⟨hr, k, h1, tk, e, hk, rfl, hsz, S1, hs, hw, out⟩
      obtain ⟨e1, e2⟩ := drop_cons e
      obtain ⟨lk, rfl⟩ := refsF_get e1
      refine wpAny_bind (wpAny_holding ?_)
      show wpAny _ _ (Builtin.SmallTypes.nextOf (.ref (N + k)) >>= _) _ _ _
      have S1k := S1.it k lk
      rw [if_neg (Nat.lt_irrefl _)] at S1k
      refine wpAny_bind (zip_draw (s := ⟨h1, g, d, tk, os⟩) (h := h1) (ha k lk) hh (hi k lk) S1k (out.tup (ha k lk) (ht k lk)) fun y h2 tk2 hy it2 hs2 => wpAny_pure (wpAny_pure ?_))
      replace hs2 : Heap.SameBut (N + k) h1 h2 := hs2
      refine ⟨rfl, k + 1, h2, tk2, e2, lk, rfl, by rw [hs2.1, hsz], ⟨hs2.extBut _ _ (nea (by omega)) S1.z, hs2.extBut _ _ (nea (by omega)) S1.ti, hs2.extBut _ _ (nea (by omega)) S1.to, S1.lv, fun j hj => ?_⟩, by rw [Array.size_push, hs], fun j hj => ?_, out.tr (OutZ.same hs2 (by omega) (by omega))⟩
      · by_cases hjk : j = k
        · subst hjk
          rw [if_pos (Nat.lt_succ_self _)]
          exact it2
        · have q := S1.it j hj
          have e5 : (if j < k + 1 then i + 1 else i) = (if j < k then i + 1 else i) := by
            by_cases l : j < k
            · rw [if_pos l, if_pos (by omega)]
            · rw [if_neg l, if_neg (by omega)]
          show Heap.IsTupleIter _ _ _ (if j < k + 1 then i + 1 else i)
          rw [e5]
          exact zip_itk hs2 q (nea (by omega))
      · by_cases hjk : j = k
        · subst hjk
          rw [← hs, Array.getElem?_push_size, hs, hy]
        · rw [Array.getElem?_push_lt (by omega), ← Array.getElem?_eq_getElem]
          exact hw j (by omega)
    · rintro ⟨r1, r2⟩ s' ⟨hr, k, h1, tk, e, hk, rfl, hsz, S1, hs, hw, out⟩
      have hr : r1 = none := hr
      subst hr
      have ek : k = n := by
        have := congrArg List.length e
        rw [List.length_drop, lr] at this
        simp at this
        omega
      subst ek
      have hs : r2.size = k := hs
      refine wpAny_bind (wpAny_newTuple (wpAny_pure ⟨_, rfl, ?_⟩) (by rw [Array.length_toList, hs]; exact hn))
      show Q (.ref h1.objs.size) _
      rw [hsz]
      refine hQ r2.toList f0 true vs (h1.push (TupO r2.toList)) tk (by rw [Array.length_toList, hs]) (fun j hj => by rw [Array.getElem?_toList]; exact hw j hj) ⟨Heap.get?_push_of_some _ S1.z, Heap.get?_push_of_some _ S1.ti, Heap.get?_push_of_some _ S1.to, S1.lv, fun j hj => ?_⟩ hf ?_ fun c o hc e => Heap.get?_push_of_some _ (out c o hc e)
      · have q := S1.it j hj
        rw [if_pos hj] at q
        exact q.at fun o e => Heap.get?_push_of_some _ e
      · show (h1.push _).get? hp.objs.size = _
        rw [← hsz]
        exact Heap.get?_push_size _ rfl
    · exact hs'.extBut _ _ (nea (by omega)) S.ti
    · exact hs'.extBut _ _ (nea (by omega)) S.to
    · exact zip_itk hs' (S.it k hk) (nea (by omega))
theorem zipN_next_end {Q : Fin → Shared → Prop} (hh : A.handled = none) (S : ZSt N n ad (fun _ => i) f0 b vs s.heap) (hf : FreeF f0) (h0 : 0 < n) (ha : ∀ k, k < n → ad k < N) (ht : ∀ k, k < n → s.heap.IsTuple (ad k) (its k)) (hi : i = (its 0).size)
    (hE : ∀ h' tk e, OutZ N n s.heap h' → (∃ o, h'.get? e = some o ∧ o.cls = .type "StopIteration") → E (.ref e) { s with heap := h', toks := tk }) :
    wpAny (model prog w) A (Builtin.«zip.__next__» ⟨[.ref (N + n + 2)], []⟩) Q E s := by
  obtain ⟨hp, g, d, tk0, os⟩ := s
  have hz := S.z
  show wpAny _ _ (field (.ref (N + n + 2)) 2 >>= _) _ _ _
  refine wpAny_bind (wpAny_field hz rfl (x := .bool false) rfl ?_)
  show wpAny _ _ (field (.ref (N + n + 2)) 3 >>= _) _ _ _
  refine wpAny_bind (wpAny_field hz rfl (x := .ref (N + n)) rfl ?_)
  refine wpAny_bind (wpAny_seqItems S.ti rfl ?_)
  have lr : (refsF N n).length = n := by simp [refsF]
  have ne : (refsF N n).toArray.isEmpty = false := by
    cases e : refsF N n with
    | nil => rw [e] at lr; simp at lr; omega
    | cons x l => simp
  simp only [ne]
  show wpAny _ _ (Builtin.SmallTypes.ownedTupleIsFree (.ref (N + n + 2)) >>= _) _ _ _
  have hlt : N + n + 2 < hp.objs.size := Heap.lt_size hz
  obtain ⟨rs, er⟩ : ∃ rs, refsF N n = .ref (N + 0) :: rs := by
    cases e : refsF N n with
    | nil => rw [e] at lr; simp at lr; omega
    | cons x l =>
      obtain ⟨_, rfl⟩ := refsF_get (N := N) (n := n) (k := 0) (v := x) (by rw [e]; rfl)
      exact ⟨l, rfl⟩
  refine wpAny_bind (free_or hz hf ?_ ?_)
  · simp only [if_true]
    refine wpAny_bind (wpAny_rule ?_)
    refine wpAny_bind (wpAny_field hz rfl (x := .ref (N + n + 1)) rfl ?_)
    refine wpAny_bind (wpAny_setField_rec hz (by simp) fun g0 hz0 hs0 => ?_)
    refine wpAny_bind ?_
    replace hs0 : Heap.SameBut (N + n + 2) hp g0 := hs0
    replace hz0 : g0.get? (N + n + 2) = some (ZipO .ellipsis b (N + n) (N + n + 1)) := hz0
    have it0 : g0.IsTupleIter (N + 0) (ad 0) i := zip_itk (k := 0) hs0 (S.it 0 h0) (nea (by omega))
    have tp0 : g0.IsTuple (ad 0) (its 0) := (OutZ.same (N := N) (n := n) hs0 (by omega) (by omega)).tup (ha 0 h0) (ht 0 h0)
    simp only [er, List.zipIdx_cons, List.forIn_cons]
    refine wpAny_bind (wpAny_bind (wpAny_onRaise ?_))
    show wpAny _ _ (Builtin.SmallTypes.nextOf (.ref (N + 0)) >>= _) _ _ _
    refine wpAny_bind ((Draws.tuple (prog := prog) (w := w) hh (N + 0) (ad 0) (show ad 0 ≠ N + 0 from nea (.inl (ha 0 h0))) (its 0)).done ⟨g0, g, d, tk0, os⟩ _ _ ⟨by rw [← hi]; exact it0, tp0⟩ fun q e hq he => ?_)
    replace hq : Heap.ExtBut (N + 0) g0 q := hq
    obtain ⟨oe, hoe, hce⟩ := he
    replace hoe : q.get? e = some oe := hoe
    have hzq : q.get? (N + n + 2) = some (ZipO .ellipsis b (N + n) (N + n + 1)) := hq _ _ (nea (by omega)) hz0
    have hez : e ≠ N + n + 2 := fun x => by subst x; rw [hzq] at hoe; cases hoe; simp at hce
    refine wpAny_setField_rec (s := ⟨q, g, d, tk0, os⟩) hzq (by simp) fun q' _ hq' => ?_
    replace hq' : Heap.SameBut (N + n + 2) q q' := hq'
    exact hE q' tk0 e (fun c o hc x => hq'.extBut _ _ (nea (by omega)) (hq _ _ (nea (by omega)) (hs0.extBut _ _ (nea (by omega)) x))) ⟨oe, hq'.extBut _ _ hez hoe, hce⟩
  · intro h' hz' hs'
    simp only [Bool.false_eq_true, if_false]
    replace hs' : Heap.SameBut (N + n + 2) hp h' := hs'
    have it0 : h'.IsTupleIter (N + 0) (ad 0) i := zip_itk (k := 0) hs' (S.it 0 h0) (nea (by omega))
    have tp0 : h'.IsTuple (ad 0) (its 0) := (OutZ.same (N := N) (n := n) hs' (by omega) (by omega)).tup (ha 0 h0) (ht 0 h0)
    refine wpAny_bind ?_
    rw [← Array.forIn_toList]
    simp only [er, List.forIn_cons]
    refine wpAny_bind (wpAny_bind (wpAny_holding ?_))
    show wpAny _ _ (Builtin.SmallTypes.nextOf (.ref (N + 0)) >>= _) _ _ _
    refine wpAny_bind ((Draws.tuple (prog := prog) (w := w) hh (N + 0) (ad 0) (show ad 0 ≠ N + 0 from nea (.inl (ha 0 h0))) (its 0)).done ⟨h', g, d, tk0, os⟩ _ _ ⟨by rw [← hi]; exact it0, tp0⟩ fun q e hq he => ?_)
    replace hq : Heap.ExtBut (N + 0) h' q := hq
    exact hE q tk0 e (fun c o hc x => hq _ _ (nea (by omega)) (hs'.extBut _ _ (nea (by omega)) x)) he
theorem pyNext_zipN_item {Q : Option Value → Shared → Prop} (hh : A.in1.handled = none) (S : ZSt N n ad (fun _ => i) f0 b vs s.heap) (hf : FreeF f0) (h0 : 0 < n) (hn : n ≤ sizeLine) (ha : ∀ k, k < n → ad k < N) (ht : ∀ k, k < n → s.heap.IsTuple (ad k) (its k)) (hi : ∀ k, k < n → i < (its k).size)
    (hQ : ∀ ws f0' b' vs' h' tk, ws.length = n → (∀ k, k < n → ws[k]? = (its k)[i]?) → ZSt N n ad (fun _ => i + 1) f0' b' vs' h' → FreeF f0' → h'.get? s.heap.objs.size = some (TupO ws) → OutZ N n s.heap h' → Q (some (.ref s.heap.objs.size)) { s with heap := h', toks := tk }) :
    wpAny (model prog w) A (pyNext (.ref (N + n + 2))) Q E s := by
  have hT : s.TypeIs (.ref (N + n + 2)) "zip" := ⟨_, S.z, rfl⟩
  unfold pyNext
  exact wpAny_bind (wpAny_attempt (wpAny_callSpecial?_slot (name := Str.ofString "__next__") hT F.slot_zip_next
    (wpAny_call_entry F.slot_zip_next hT F.entry_zip_next
      (zipN_next_item (its := its) hh S hf h0 hn ha ht hi fun ws f0' b' vs' h' tk a1 a2 a3 a4 a5 a6 => wpAny_pure (hQ ws f0' b' vs' h' tk a1 a2 a3 a4 a5 a6)) (F.args_zip_next_1 _))))
theorem pyNext_zipN_end {Q : Option Value → Shared → Prop} (hh : A.in1.handled = none) (S : ZSt N n ad (fun _ => i) f0 b vs s.heap) (hf : FreeF f0) (h0 : 0 < n) (ha : ∀ k, k < n → ad k < N) (ht : ∀ k, k < n → s.heap.IsTuple (ad k) (its k)) (hi : i = (its 0).size)
    (hQ : ∀ h' tk, OutZ N n s.heap h' → Q none { s with heap := h', toks := tk }) : wpAny (model prog w) A (pyNext (.ref (N + n + 2))) Q E s := by
  have hT : s.TypeIs (.ref (N + n + 2)) "zip" := ⟨_, S.z, rfl⟩
  unfold pyNext
  refine wpAny_bind (wpAny_attempt (wpAny_callSpecial?_slot (name := Str.ofString "__next__") hT F.slot_zip_next
    (wpAny_call_entry F.slot_zip_next hT F.entry_zip_next (zipN_next_end (its := its) hh S hf h0 ha ht hi fun h' tk e hk he => ?_) (F.args_zip_next_1 _))))
  obtain ⟨o, ho, hc⟩ := he
  refine wpAny_bind (wpAny_isInstance (T := "StopIteration") (b := true) ⟨o, ho, hc⟩ isSubtype_stop ?_)
  exact wpAny_pure (hQ _ _ hk)
theorem pyIter_zipN {Q : Value → Shared → Prop} {z TI TO : Addr} (hz : s.heap.get? z = some (ZipO f0 b TI TO)) (h : Q (.ref z) s) : wpAny (model prog w) A (pyIter (.ref z)) Q E s := by
  have hT : s.TypeIs (.ref z) "zip" := ⟨_, hz, rfl⟩
  refine wpAny_pyIter_slot hT F.slot_zip_iter (wpAny_call_entry F.slot_zip_iter hT F.entry_zip_iter ?_ (F.args_zip_iter_1 _))
  unfold Builtin.«dict_keyiterator.__iter__»
  exact wpAny_pure ⟨_, rfl, "zip", _, hT, F.slot_zip_next.lookup, h⟩
end
/-- the arguments: tuples -/
def argsF (ad : Nat → Nat) (n : Nat) : List Value := (List.range n).map fun k => .ref (ad k)
abbrev TupIt (a : Addr) : Obj := { cls := .type "tuple_iterator", data := .fields #[.ref a, .int 0 0] }
theorem zipN_type : ∀ n, 0 < n → n ≤ 5 → ∀ ad, checkTypeCall "zip" ⟨argsF ad n, []⟩ = pure ()
  | 1, _, _, _ => by kernel_rfl
  | 2, _, _, _ => by kernel_rfl
  | 3, _, _, _ => by kernel_rfl
  | 4, _, _, _ => by kernel_rfl
  | 5, _, _, _ => by kernel_rfl
  | 0, h, _, _ => absurd h (Nat.lt_irrefl _)
  | n + 6, _, h, _ => absurd h (by omega)
theorem zipN_newC : ∀ n, 0 < n → n ≤ 5 → ∀ ad, checkBuiltinCall "zip.__new__" ⟨.type "zip" :: argsF ad n, []⟩ = pure ()
  | 1, _, _, _ => by kernel_rfl
  | 2, _, _, _ => by kernel_rfl
  | 3, _, _, _ => by kernel_rfl
  | 4, _, _, _ => by kernel_rfl
  | 5, _, _, _ => by kernel_rfl
  | 0, h, _, _ => absurd h (Nat.lt_irrefl _)
  | n + 6, _, h, _ => absurd h (by omega)
theorem zipN_init : ∀ n, 0 < n → n ≤ 5 → ∀ ad obj, argsOk "object.__init__" ⟨obj :: argsF ad n, []⟩
  | 1, _, _, _, _ => by unfold argsOk; kernel_rfl
  | 2, _, _, _, _ => by unfold argsOk; kernel_rfl
  | 3, _, _, _, _ => by unfold argsOk; kernel_rfl
  | 4, _, _, _, _ => by unfold argsOk; kernel_rfl
  | 5, _, _, _, _ => by unfold argsOk; kernel_rfl
  | 0, h, _, _, _ => absurd h (Nat.lt_irrefl _)
  | n + 6, _, h, _, _ => absurd h (by omega)
section
variable {prog : Program} {w : World} {A : Around} {E : Value → Shared → Prop} {s : Shared} {n : Nat} {ad : Nat → Nat} {its : Nat → Array Value}
theorem argsF_get {ad : Nat → Nat} {n k : Nat} {v : Value} (h : (argsF ad n)[k]? = some v) : k < n ∧ v = .ref (ad k) := by
  unfold argsF at h
  rw [List.getElem?_map] at h
  by_cases l : k < n
  · rw [List.getElem?_range l] at h
    exact ⟨l, by simpa using h.symm⟩
  · rw [List.getElem?_eq_none (by simp; omega)] at h
    cases h
theorem iterAllN {Q : List Value → Shared → Prop} (ht : ∀ k, k < n → s.heap.IsTuple (ad k) (its k))
    (hQ : ∀ h', h'.objs.size = s.heap.objs.size + n → (∀ k, k < n → h'.get? (s.heap.objs.size + k) = some (TupIt (ad k))) → (∀ c o, s.heap.get? c = some o → h'.get? c = some o) → Q (refsF s.heap.objs.size n) { s with heap := h' }) :
    wpAny (model prog w) A (Builtin.SmallTypes.iterAll (argsF ad n)) Q E s := by
  obtain ⟨hp, g, d, tk, os⟩ := s
  unfold Builtin.SmallTypes.iterAll
  have lr : (argsF ad n).length = n := by simp [argsF]
  refine wpAny_bind (wpAny_forIn_list _ (fun rest r s' => ∃ k h1, rest = (argsF ad n).drop k ∧ k ≤ n ∧ s' = ⟨h1, g, d, tk, os⟩ ∧ h1.objs.size = hp.objs.size + k ∧ r.toList = refsF hp.objs.size k ∧ (∀ j, j < k → h1.get? (hp.objs.size + j) = some (TupIt (ad j))) ∧ ∀ c o, hp.get? c = some o → h1.get? c = some o) _ ?_ ?_ _ _ ⟨0, hp, rfl, Nat.zero_le _, rfl, rfl, rfl, fun j hj => absurd hj (Nat.not_lt_zero _), fun _ _ e => e⟩)
  · rintro x rest r s' ⟨k, h1, e, hk, rfl, hsz, hr, hi, hk2⟩
    obtain ⟨e1, e2⟩ := drop_cons e
    obtain ⟨lk, rfl⟩ := argsF_get e1
    have tk1 : h1.IsTuple (ad k) (its k) := (ht k lk).at fun o e => hk2 _ o e
    refine wpAny_bind (wpAny_holding ((begins_tuple (ad k) (its k)).iter prog w _ _ ⟨h1, g, d, tk, os⟩ _ tk1 (wpAny_pure ?_)))
    refine ⟨k + 1, _, e2, lk, rfl, by show (h1.push _).objs.size = _; rw [Heap.size_push, hsz]; rfl, ?_, fun j hj => ?_, fun c o q => Heap.get?_push_of_some _ (hk2 c o q)⟩
    · rw [Array.toList_push, hr]
      show refsF hp.objs.size k ++ [.ref h1.objs.size] = refsF hp.objs.size (k + 1)
      rw [hsz]
      unfold refsF
      rw [List.range_succ, List.map_append]; rfl
    · by_cases hjk : j = k
      · subst hjk
        rw [← hsz]
        exact Heap.get?_push_size _ rfl
      · exact Heap.get?_push_of_some _ (hi j (by omega))
  · rintro r s' ⟨k, h1, e, hk, rfl, hsz, hr, hi, hk2⟩
    have ek : k = n := by
      have := congrArg List.length e
      rw [List.length_drop, lr] at this
      simp at this
      omega
    subst ek
    show wpAny _ _ (pure r.toList) _ _ _
    rw [hr]
    exact wpAny_pure (hQ h1 hsz hi hk2)
theorem meets_zipN (n : Nat) (hn : n ≤ 5) (ad : Nat → Nat) (its : Nat → Array Value) :
    Meets (Builtin.«zip.__new__» ⟨.type "zip" :: argsF ad n, []⟩) (fun _ R s => (∀ k, k < n → s.heap.IsTuple (ad k) (its k)) ∧
      ∀ h' , ZSt s.heap.objs.size n ad (fun _ => 0) .none false (List.replicate n .none) h' → (∀ c o, s.heap.get? c = some o → h'.get? c = some o) → R (.ok (.ret (.ref (s.heap.objs.size + n + 2)))) { s with heap := h' }) :=
  .of_wp fun prog w A R s h => by
    obtain ⟨hp, g, d, tk, os⟩ := s
    obtain ⟨ht, h⟩ := h
    have hsub := PySem.sub_zip
    unfold Builtin.«zip.__new__»
    have lr : (refsF hp.objs.size n).length = n := by simp [refsF]
    have hs5 : 5 ≤ sizeLine := by decide +kernel
    have q1 : ∀ {A' : Around} {E : Value → Shared → Prop} {Q : List Value → Shared → Prop}, (∀ h', h'.objs.size = hp.objs.size + n → (∀ k, k < n → h'.get? (hp.objs.size + k) = some (TupIt (ad k))) → (∀ c o, hp.get? c = some o → h'.get? c = some o) → Q (refsF hp.objs.size n) ⟨h', g, d, tk, os⟩) →
        wpAny (model prog w) A' (Builtin.SmallTypes.iterAll (argsF ad n)) Q E ⟨hp, g, d, tk, os⟩ := fun q => iterAllN (s := ⟨hp, g, d, tk, os⟩) ht q
    wp_walk using q1
    intro h1 hsz hit hk
    have e1 : List.map (fun _ => Value.none) (refsF hp.objs.size n) = List.replicate n Value.none := by
      rw [List.map_const', lr]
    rw [e1]
    refine wpAny_bind (wpAny_newTuple ?_ (by rw [lr]; omega))
    refine wpAny_bind (wpAny_newTuple ?_ (by rw [List.length_replicate]; omega))
    unfold Builtin.SmallTypes.newRecord
    refine wpAny_bind (wpAny_newObj_type (wpAny_pure ⟨_, rfl, ?_⟩) (show 5 ≤ sizeLine + 2 from Nat.le_add_right_of_le hs5))
    · have s1 : (h1.push (TupO (refsF hp.objs.size n))).objs.size = hp.objs.size + n + 1 := by rw [Heap.size_push, hsz]
      have s2 : ((h1.push (TupO (refsF hp.objs.size n))).push (TupO (List.replicate n Value.none))).objs.size = hp.objs.size + n + 2 := by rw [Heap.size_push, s1]
      show R (.ok (.ret (.ref ((h1.push (TupO (refsF hp.objs.size n))).push (TupO (List.replicate n Value.none))).objs.size))) _
      rw [s2]
      refine h _ ⟨?_, ?_, ?_, List.length_replicate, fun k hk => ?_⟩ fun c o e => Heap.get?_push_of_some _ (Heap.get?_push_of_some _ (Heap.get?_push_of_some _ (hk c o e)))
      · show Heap.get? (((h1.push (TupO (refsF hp.objs.size n))).push (TupO (List.replicate n Value.none))).push (ZipO .none false h1.objs.size (h1.push (TupO (refsF hp.objs.size n))).objs.size)) (hp.objs.size + n + 2) = _
        rw [← s2, s1, hsz]
        exact Heap.get?_push_size _ rfl
      · show Heap.get? _ (hp.objs.size + n) = _
        rw [← hsz]
        exact Heap.get?_push_of_some _ (Heap.get?_push_of_some _ (Heap.get?_push_size _ rfl))
      · show Heap.get? _ (hp.objs.size + n + 1) = _
        rw [← s1]
        exact Heap.get?_push_of_some _ (Heap.get?_push_size _ rfl)
      · exact ⟨_, Heap.get?_push_of_some _ (Heap.get?_push_of_some _ (Heap.get?_push_of_some _ (hit k hk))), rfl, rfl⟩
theorem call_zipN {Q : Value → Shared → Prop} (h0 : 0 < n) (hn : n ≤ 5) (ht : ∀ k, k < n → s.heap.IsTuple (ad k) (its k))
    (hQ : ∀ h', ZSt s.heap.objs.size n ad (fun _ => 0) .none false (List.replicate n .none) h' → (∀ c o, s.heap.get? c = some o → h'.get? c = some o) → Q (.ref (s.heap.objs.size + n + 2)) { s with heap := h' }) :
    wpAny (model prog w) A (call (.type "zip") (argsF ad n)) Q E s :=
  callType_new F.called_zip (by decide) (zipN_type n h0 hn ad) (zipN_newC n h0 hn ad) (fun obj => zipN_init n h0 hn ad obj) F.entry_zip_new
    (meets_zipN n hn ad its) ⟨ht, fun h' S hk => ⟨⟨_, S.z, rfl⟩, hQ h' S hk⟩⟩
end
end Mr
namespace Mr
open PySem PySem.Spec PyProof.Rows L2
variable [Lam] [Pins]
section
variable {X : Cx} {W : WX}
/-- the tuples at ad, the items in new tuples -/
def ItzN (K : PySem.W.Frag) (ad : Nat → Nat) (n : Nat) : It :=
  ⟨fun i H => ∀ k, k < n → ∃ xs, SqT K H (ad k) xs ∧ i < xs.length,
    fun i H v H' => ∃ T ws, v = .ref T ∧ H T = none ∧ H' = upd H T (.tup ws) ∧ ws.length = n ∧ ∀ k, k < n → ∀ xs, SqT K H (ad k) xs → ws[k]? = xs[i]?,
    fun i H => (∀ k, k < n → ∃ xs, SqT K H (ad k) xs) ∧ ∃ xs, SqT K H (ad 0) xs ∧ i = xs.length⟩
theorem sqT_heap {pins : List (Addr × Obj)} {σ : L2.St} {H : Hp} {s : Shared} {a : Addr} {xs : List V} (I : Inv X pins σ H s) (h : SqT X.K H a xs) : ∃ its : List Value, Vals xs its ∧ s.heap.IsTuple a its.toArray := by
  obtain ⟨its, rv, p, _⟩ := I.tuple h; exact ⟨its, rv, p⟩
theorem sqT_all {pins : List (Addr × Obj)} {σ : L2.St} {H : Hp} {s : Shared} {ad : Nat → Nat} {n : Nat} (I : Inv X pins σ H s) (h : ∀ k, k < n → ∃ xs, SqT X.K H (ad k) xs) :
    ∃ (xss : Nat → List V) (its : Nat → List Value), ∀ k, k < n → SqT X.K H (ad k) (xss k) ∧ Vals (xss k) (its k) ∧ s.heap.IsTuple (ad k) (its k).toArray := by
  have : ∀ k, ∃ (xs : List V) (it : List Value), k < n → SqT X.K H (ad k) xs ∧ Vals xs it ∧ s.heap.IsTuple (ad k) it.toArray := fun k => by
    by_cases l : k < n
    · obtain ⟨xs, hx⟩ := h k l
      obtain ⟨it, r, p⟩ := sqT_heap I hx
      exact ⟨xs, it, fun _ => ⟨hx, r, p⟩⟩
    · exact ⟨[], [], fun q => absurd q l⟩
  obtain ⟨xss, h1⟩ := Classical.axiomOfChoice this
  obtain ⟨its, h2⟩ := Classical.axiomOfChoice h1
  exact ⟨xss, its, h2⟩
def tnZ (N n : Nat) (ad : Nat → Nat) (i : Nat) (h : Heap) : Prop := ∃ f0 b vs, FreeF f0 ∧ ZSt N n ad (fun _ => i) f0 b vs h
def fpZ (N n : Nat) : List Addr := List.range' N (n + 3)
theorem mem_fpZ {N n c : Nat} : c ∈ fpZ N n ↔ N ≤ c ∧ c ≤ N + n + 2 := by
  unfold fpZ
  rw [List.mem_range'_1]
  omega
theorem notfp {N n c : Nat} (h : c ∉ fpZ N n) : c < N ∨ N + n + 2 < c := by
  rw [mem_fpZ] at h
  omega
theorem vals_of {vs : List V} {us : List Value} (hl : us.length = vs.length) (h : ∀ k, k < vs.length → ∃ v u, vs[k]? = some v ∧ us[k]? = some u ∧ RelV v u) : Vals vs us := by
  induction vs generalizing us with
  | nil =>
    cases us with
    | nil => exact .nil
    | cons _ _ => simp at hl
  | cons v vs ih =>
    cases us with
    | nil => simp at hl
    | cons u us =>
      obtain ⟨v', u', e1, e2, r⟩ := h 0 (by simp)
      simp at e1 e2
      subst e1 e2
      refine .cons r (ih (by simpa using hl) fun k hk => ?_)
      obtain ⟨v', u', e1, e2, r⟩ := h (k + 1) (by simpa using hk)
      exact ⟨v', u', by simpa using e1, by simpa using e2, r⟩
theorem turn_zipN {P : Program} {w : World} {K : PySem.W.Frag} {x : Str} {tpos : Pos} {N n : Nat} {ad : Nat → Nat} (h0 : 0 < n) (hn : n ≤ 5) (ha : ∀ k, k < n → ad k < N) :
    Turn P w K (.Name x tpos) (ItzN K ad n) (fpZ N n) (N + n + 2) (tnZ N n ad) where
  mem := mem_fpZ.mpr (by omega)
  obj := fun i h st c hc => by
    obtain ⟨f0, b, vs, hf, S⟩ := st
    obtain ⟨c, rfl⟩ : ∃ c' : Nat, c' = c := ⟨c, rfl⟩
    have hc : N ≤ c ∧ c ≤ N + n + 2 := mem_fpZ.mp hc
    by_cases c1 : c < N + n
    · obtain ⟨k, hk, rfl⟩ : ∃ k, k < n ∧ c = N + k := ⟨c - N, by omega, by omega⟩
      obtain ⟨o, e, _, dd⟩ := S.it k hk
      exact ⟨o, e, fun v q => by rw [dd] at q; cases q⟩
    · rcases (by omega : c = N + n ∨ c = N + n + 1 ∨ c = N + n + 2) with rfl | rfl | rfl
      · exact ⟨_, S.ti, fun v q => nomatch q⟩
      · exact ⟨_, S.to, fun v q => nomatch q⟩
      · exact ⟨_, S.z, fun v q => nomatch q⟩
  keep := fun i h h' st k => by
    obtain ⟨f0, b, vs, hf, S⟩ := st
    exact ⟨f0, b, vs, hf, k _ (mem_fpZ.mpr (by omega)) _ S.z, k _ (mem_fpZ.mpr (by omega)) _ S.ti, k _ (mem_fpZ.mpr (by omega)) _ S.to, S.lv, fun j hj => (S.it j hj).at fun o e => k _ (mem_fpZ.mpr (by omega)) o e⟩
  item := by
    intro X hP hw hK hc i pins s σ H E I hf st hg
    subst hP hw hK
    obtain ⟨f0, b, vs, hff, S⟩ := st
    obtain ⟨xss, its, hx⟩ := sqT_all I fun k hk => let ⟨xs, q, _⟩ := hg k hk; ⟨xs, q⟩
    have lz : N + n + 2 < s.heap.objs.size := Heap.lt_size S.z
    have hh : X.A.in1.handled = none := by simpa using I.ok.hd hc
    have hs5 : 5 ≤ sizeLine := by decide +kernel
    have hi : ∀ k, k < n → i < (its k).toArray.size := fun k hk => by
      obtain ⟨xs, q, l⟩ := hg k hk
      obtain ⟨q1, r1, _⟩ := hx k hk
      rw [List.size_toArray, ← r1.length, I.tuple_inj q1 q]
      exact l
    refine pyNext_zipN_item (its := fun k => (its k).toArray) hh S hff h0 (by omega) ha (fun k hk => (hx k hk).2.2) hi fun ws f0' b' vs' h' tk hl hws S' hf' hT out => ?_
    refine ⟨_, rfl, wpAny_pure ?_⟩
    have hws' : ∀ k, k < n → ∃ v u, (xss k)[i]? = some v ∧ ws[k]? = some u ∧ RelV v u := fun k hk => by
      obtain ⟨q1, r1, _⟩ := hx k hk
      have l : i < (xss k).length := by have := hi k hk; rw [List.size_toArray, ← r1.length] at this; exact this
      obtain ⟨u, hu, ru⟩ := r1.get (List.getElem?_eq_getElem l)
      exact ⟨_, u, List.getElem?_eq_getElem l, by rw [hws k hk]; simpa using hu, ru⟩
    obtain ⟨vv, hvv⟩ : ∃ vv : List V, vv.length = n ∧ ∀ k, k < n → vv[k]? = (xss k)[i]? := by
      refine ⟨(List.range n).map fun k => ((xss k)[i]?).getD .non, by simp, fun k hk => ?_⟩
      obtain ⟨v, u, e1, _⟩ := hws' k hk
      rw [List.getElem?_map, List.getElem?_range hk]; simp [e1]
    have rel : Vals vv ws := vals_of (hl.trans hvv.1.symm) fun k hk => by
      rw [hvv.1] at hk
      obtain ⟨v, u, e1, e2, r⟩ := hws' k hk
      exact ⟨v, u, (hvv.2 k hk).trans e1, e2, r⟩
    have new : ObjOk X.prog X.w (upd H s.heap.objs.size (.tup vv)) h' s.heap.objs.size (.tup vv) :=
      ⟨by rw [hvv.1]; omega, ws, rel, ⟨_, hT, rfl, _, rfl⟩⟩
    have J : Inv X pins σ (upd H s.heap.objs.size (.tup vv)) { s with heap := h', toks := tk } :=
      I.turnedNew (ch := fpZ N n) (fun c o hb q => out c o (notfp hb) q) hf (Nat.le_refl _) new
    refine ⟨.ref s.heap.objs.size, _, J, rfl, ⟨_, vv, rfl, I.hok.fresh (Nat.le_refl _), rfl, hvv.1, fun k hk xs q => ?_⟩, ⟨f0', b', vs', hf', S'⟩, fun c hcm => ?_⟩
    · rw [hvv.2 k hk, I.tuple_inj (hx k hk).1 q]
    · obtain ⟨c, rfl⟩ : ∃ c' : Nat, c' = c := ⟨c, rfl⟩
      have hc' : N ≤ c ∧ c ≤ N + n + 2 := mem_fpZ.mp hcm
      have lt : c ≠ s.heap.objs.size := nea (by omega)
      rw [upd_ne lt]
      exact (hf c hcm).1
  done := by
    intro X hP hw hK hc i pins s σ H E I hf st hg
    subst hP hw hK
    obtain ⟨f0, b, vs, hff, S⟩ := st
    obtain ⟨hg1, xs0, q0, e0⟩ := hg
    obtain ⟨xss, its, hx⟩ := sqT_all I hg1
    have hh : X.A.in1.handled = none := by simpa using I.ok.hd hc
    refine pyNext_zipN_end (its := fun k => (its k).toArray) hh S hff h0 ha (fun k hk => (hx k hk).2.2) ?_ fun h' tk out => ⟨rfl, I.turnedL (t' := tk) (ch := fpZ N n) (fun c o hb q => out c o (notfp hb) q) hf⟩
    obtain ⟨q1, r1, _⟩ := hx 0 h0
    rw [e0, I.tuple_inj q0 q1, r1.length]
    simp
  self := fun A i s Q E st h => by
    obtain ⟨f0, b, vs, hff, S⟩ := st
    exact pyIter_zipN S.z h
def mItS (g : D → FR (List D)) (fe : M D) : M (List D) := fun ρ => (fe ρ).bind fun d ρ => (g d).lift ρ
def tupsD : List D → Option (List (List D))
  | [] => some []
  | .tup xs :: r => (tupsD r).map (xs :: ·)
  | _ :: _ => none
def zipSD : D → FR (List D)
  | .tup rs => match tupsD rs with
    | some (r :: rows) => if rows.length < 5 ∧ rows.all (fun q => q.length == r.length) = true then .ok ((List.range r.length).map fun i => tupW ((r :: rows).map fun q => q.getD i .non)) else .stuck
    | _ => .stuck
  | _ => .stuck
theorem tups_rep {K : PySem.W.Frag} {H : Hp} : ∀ {rs : List D} {rows : List (List D)} {vs : List V}, Reps K H vs rs → tupsD rs = some rows → ∃ (ads : List Nat) (xss : List (List V)), vs = ads.map (fun a => V.ref a) ∧ ads.length = rows.length ∧ ∀ k, k < rows.length → SqT K H (ads.getD k 0) (xss.getD k []) ∧ Reps K H (xss.getD k []) (rows.getD k [])
  | [], rows, vs, r, h => by
    cases r
    cases h
    exact ⟨[], [], rfl, rfl, fun k hk => absurd hk (Nat.not_lt_zero _)⟩
  | d :: rs, rows, vs, r, h => by
    cases r with
    | cons r1 r2 =>
      cases d <;> try (cases h; done)
      rename_i xs
      unfold tupsD at h
      cases e : tupsD rs with
      | none => rw [e] at h; cases h
      | some rows' =>
        rw [e] at h
        cases h
        obtain ⟨ads, xss, rfl, hl, hq⟩ := tups_rep r2 e
        cases r1 with
        | tup hx rx hnq =>
          rename_i a ys
          refine ⟨a :: ads, ys :: xss, rfl, by simp [hl], fun k hk => ?_⟩
          cases k with
          | zero => exact ⟨hx, rx⟩
          | succ k => simpa using hq k (by simpa using hk)
def iZipN (K : PySem.W.Frag) (te : TE) : TI := fun σ H R => te σ H fun y H1 => ∃ (a : Addr) (ads : List Nat), y = .ref a ∧ SqT K H1 a (ads.map fun a => V.ref a) ∧ 0 < ads.length ∧ ads.length ≤ 5 ∧ (∀ k, k < ads.length → ∃ xs, SqT K H1 (ads.getD k 0) xs) ∧ R (ItzN K (ads.getD · 0) ads.length) H1
theorem vals_refs : ∀ {ads : List Nat} {us : List Value}, Vals (ads.map fun a => V.ref a) us → us = ads.map fun a => Value.ref a
  | [], _, .nil => rfl
  | a :: ads, _, .cons r q => by
    have r : _ = Value.ref a := r
    rw [r, vals_refs q]; rfl
theorem args_refs (ads : List Nat) : (ads.map fun a => Value.ref a) = argsF (ads.getD · 0) ads.length := by
  unfold argsF
  refine List.ext_getElem? fun k => ?_
  rw [List.getElem?_map, List.getElem?_map]
  by_cases l : k < ads.length
  · rw [List.getElem?_range l, List.getElem?_eq_getElem l]
    simp [List.getD_eq_getElem?_getD, List.getElem?_eq_getElem l]
  · rw [List.getElem?_eq_none (by omega), List.getElem?_eq_none (by simp; omega)]; rfl
theorem keeps_type {M : Model} {h : Heap} {T : String} : ∃ k, (k = Keeper.frame ∨ k = Keeper.machine ∨ k = Keeper.boundFrame) ∧ PySem.W.Looks M h (keeperOf (.type T)) k :=
  ⟨.machine, .inr (.inl rfl), PySem.W.Looks.now⟩
theorem pi_zipN {e : Expr} {te : TE} {x : Str} {p sp pos tpos : Pos} (hg : Gl X "zip") (hm : X.mg "zip" = none) (he : PE X e te)
    (hst : starEach [.Starred e sp] X.env = [(true, eval e X.env)] := by rfl) :
    PI X (.Name x tpos) (.Call (.Name "zip" p) [.Starred e sp] [] pos) (iZipN X.K te) := by
  refine ⟨fun pins s σ H R I h => Call_ (ld_blt I hg hm (show bootBuiltins "zip" = some (.type "zip") by decide +kernel) ?_)⟩
  rw [hst]
  refine PySem.W.ks_call (P := fun _ => True) rfl (fun _ _ => keeps_type) (PySem.W.ks_lone (thn (he.run pins s σ H _ I h) fun v s1 ⟨y, H1, I1, ry, a, ads, ey, hx, l0, l5, hr, q⟩ => ?_))
  subst ey
  obtain rfl : v = Value.ref a := ry
  refine StX.star_any I1 (.inl hx) fun us s2 I2 rv => ⟨trivial, ?_⟩
  rw [vals_refs rv]
  show wpAny _ _ (call (.type "zip") ([] ++ (ads.map fun a => Value.ref a)) []) _ _ _
  rw [List.nil_append, args_refs]
  obtain ⟨xss, its, hx2⟩ := sqT_all I2 hr
  have lt : ∀ k, k < ads.length → ads.getD k 0 < s2.heap.objs.size := fun k hk => by
    obtain ⟨o, e, _⟩ := (hx2 k hk).2.2
    exact Heap.lt_size e
  refine call_zipN (its := fun k => (its k).toArray) l0 l5 (fun k hk => (hx2 k hk).2.2) fun h' S hk => pyIter_zipN S.z ?_
  have I3 : Inv X pins σ H1 { s2 with heap := h' } := I2.kept (t' := s2.toks) hk
  refine ⟨_, fpZ s2.heap.objs.size ads.length, _, _, H1, rfl, I3, turn_zipN l0 l5 lt, ⟨_, _, _, .inl rfl, S⟩, fun c hc => ?_, q⟩
  have hle : s2.heap.objs.size ≤ c := (mem_fpZ.mp hc).1
  exact I2.fpOk hle (I2.hok.fresh hle)
theorem okZN {K : PySem.W.Frag} {F : Hp} {rows : List (List D)} {r : List D} {ads : List Nat} {xss : List (List V)} (hl : ads.length = (r :: rows).length) (hq : ∀ k, k < (r :: rows).length → SqT K F (ads.getD k 0) (xss.getD k []) ∧ Reps K F (xss.getD k []) ((r :: rows).getD k []))
    (he : ∀ q ∈ rows, q.length = r.length) : ItOk K (ItzN K (ads.getD · 0) ads.length) F ((List.range r.length).map fun i => tupW ((r :: rows).map fun q => q.getD i .non)) := fun i H F' s1 s2 => by
  have hlen : ∀ k, k < (r :: rows).length → (xss.getD k []).length = r.length := fun k hk => by
    rw [(hq k hk).2.length]
    cases k with
    | zero => rfl
    | succ k =>
      have hk : k < rows.length := by simpa using hk
      show (rows.getD k []).length = _
      rw [List.getD_eq_getElem?_getD, List.getElem?_eq_getElem hk]
      exact he _ (List.getElem_mem hk)
  have h1 : ∀ k, k < ads.length → SqT K H (ads.getD k 0) (xss.getD k []) := fun k hk => SqTm (s1.tr s2) (hq k (hl ▸ hk)).1
  refine ⟨fun hi => ⟨fun k hk => ⟨_, h1 k hk⟩, _, h1 0 (by rw [hl]; simp), by rw [hlen 0 (by simp), ← hi]; simp⟩, fun d hd => ?_⟩
  have li : i < r.length := by
    have := (List.getElem?_eq_some_iff.mp hd).1
    simpa using this
  rw [List.getElem?_map, List.getElem?_range li] at hd
  have hd : tupW ((r :: rows).map fun q => q.getD i .non) = d := by simpa using hd
  subst hd
  refine ⟨fun k hk => ⟨_, h1 k hk, by rw [hlen k (hl ▸ hk)]; exact li⟩, fun z H' ⟨T, ws, ez, hT, eH, lw, hw⟩ => ?_⟩
  subst ez eH
  have sF : Sm F (upd F' T (.tup ws)) := s1.tr (Sm.updN (s2.none hT))
  refine ⟨upd F' T (.tup ws), .tup s2 hT, tupW_rep (.of upd_same) ?_⟩
  have gen : ∀ (us : List V) (qs : List (List D)), us.length = qs.length → (∀ k, k < qs.length → ∃ v, us[k]? = some v ∧ Rep K (upd F' T (.tup ws)) v ((qs.getD k []).getD i .non)) → Reps K (upd F' T (.tup ws)) us (qs.map fun q => q.getD i .non) := by
    intro us
    induction us with
    | nil =>
      intro qs l _
      cases qs with
      | nil => exact .nil
      | cons _ _ => simp at l
    | cons u us ih =>
      intro qs l h
      cases qs with
      | nil => simp at l
      | cons q qs =>
        obtain ⟨v, e, rv⟩ := h 0 (by simp)
        have e : u = v := by simpa using e
        subst e
        refine .cons rv (ih qs (by simpa using l) fun k hk => ?_)
        obtain ⟨v, e, rv⟩ := h (k + 1) (by simpa using hk)
        exact ⟨v, by simpa using e, by simpa using rv⟩
  refine gen ws (r :: rows) (lw.trans hl) fun k hk => ?_
  have hk' : k < ads.length := hl ▸ hk
  have e := hw k hk' _ (h1 k hk')
  have rr := (hq k hk).2
  have lx : i < (xss.getD k []).length := by rw [hlen k hk]; exact li
  have ld : i < ((r :: rows).getD k []).length := by rw [← rr.length]; exact lx
  obtain ⟨v, ev, rv⟩ := rr.get i (List.getElem?_eq_getElem ld)
  refine ⟨v, e.trans ev, ?_⟩
  have e2 : ((r :: rows).getD k []).getD i .non = ((r :: rows).getD k [])[i] := by rw [List.getD_eq_getElem?_getD, List.getElem?_eq_getElem ld]; rfl
  rw [e2]
  exact rv.mono sF
theorem AI.zipS {e : Expr} {fe : M D} {x : Str} {p sp pos tpos : Pos} (hg : Gl X "zip") (hm : X.mg "zip" = none) (he : AE X W e fe)
    (hst : starEach [.Starred e sp] X.env = [(true, eval e X.env)] := by rfl) :
    AI X W (.Name x tpos) (.Call (.Name "zip" p) [.Starred e sp] [] pos) (mItS zipSD fe) := by
  obtain ⟨t, pa, qa⟩ := he
  refine ⟨_, pi_zipN hg hm pa hst, fun G σ H F ρ R S hgd => qa G σ H F ρ _ S (hgd.bind fun d ρ1 H1 F1 S1 s1 g1 v r1 => ?_)⟩
  unfold zipSD at g1
  split at g1
  · rename_i rs
    split at g1
    · rename_i r rows eq
      split at g1
      · rename_i hc
        obtain ⟨h5, ha⟩ := hc
        cases r1 with
        | tup hx rx hnq =>
          obtain ⟨ads, xss, rfl, hl, hq⟩ := tups_rep rx eq
          have ha' : ∀ q ∈ rows, q.length = r.length := fun q hqm => by simpa using List.all_eq_true.mp ha q hqm
          refine ⟨_, ads, rfl, SqTm S1.sub hx, by rw [hl]; simp, by rw [hl]; simp; omega, fun k hk => ⟨_, SqTm S1.sub (hq k (hl ▸ hk)).1⟩, g1 H1 F1 S1 Sm.refl _ (okZN hl hq ha')⟩
      · exact g1.elim
    · exact g1.elim
  · exact g1.elim
end
end Mr
namespace Mr
open PySem PySem.Spec PyProof.Rows L2
variable [Lam] [Pins]
section
variable {X : Cx} {W : WX} {o e : Expr} {fo fe : M D} {apos pos : Pos}
omit [Lam] [Pins] in
theorem iop_fdivP : OpR X (inplaceOp .FloorDiv) (rI divOk fun i j => .int (i.fdiv j)) := opI fun _ _ _ _ _ _ _ hc q => ifloordiv_int hc.1 q (.inl hc.2)
theorem IA.div : IA X W .FloorDiv divD := OA.ofI iop_fdivP (fun G σ H F ρ i j Q S hg => by
    simp only [divD] at hg
    split at hg
    · rename_i hz; exact ⟨i, j, rfl, rfl, hz, hg H F S Sm.refl _ (.int _)⟩
    · exact hg.elim) fun dx dy => by
  cases dx <;> cases dy <;> first | exact .inl rfl | exact .inr ⟨_, _, rfl, rfl⟩
end
end Mr
namespace Mr
open PySem PySem.Spec PyProof.Rows L2
/-- f"m{y}" -/
abbrev argF (m y : Str) (j : Nat) (p3 q1 q2 q3 : Pos) : Expr := .JoinedStr [.Constant (.str m) j p3, .FormattedValue (.Name y q1) (-1) none q2] q3
def ArgC (m : Str) (u : Value) : Prop := ∃ i t, u = .int i t ∧ i.natAbs.log2 < 1920 ∧ (m ++ toString i).length ≤ sizeLine
def ArgV (m : Str) (v : V) : Prop := ∃ i : Int, v = .int i ∧ i.natAbs.log2 < 1920 ∧ (m ++ toString i).length ≤ sizeLine
theorem ArgV.val {m : Str} {v : V} {u : Value} (h : ArgV m v) (r : RelV v u) : ArgC m u := by
  obtain ⟨i, rfl, h1, h2⟩ := h
  obtain ⟨t, rfl⟩ := r
  exact ⟨i, t, rfl, h1, h2⟩
/-- what the body's shape asks of its environment -/
def InitEnvF (qual : Str) (scope : Scope) (f y m : Str) (j : Nat) (p0 p1 p2 p3 p4 p5 p6 p7 p8 p9 q1 q2 q3 : Pos) : Prop := ∀ L g cda cc : Addr,
  interactive (PySem.W.ksEnv qual scope L g (.ref cda) cc) = false ∧
  swapsWith (.Call (.Attribute (.Call (.Name "super" p0) [] [] p1) "__init__" p2) [argF m y j p3 q1 q2 q3] [] p4) none p5.line (PySem.W.ksEnv qual scope L g (.ref cda) cc) = pure false ∧
  swapsWith (.Name y p8) (some (.Attribute (.Name "self" p6) f p7)) p9.line (PySem.W.ksEnv qual scope L g (.ref cda) cc) = pure false ∧
  ∃ pl : Sem Bool, eval (.Call (.Attribute (.Call (.Name "super" p0) [] [] p1) "__init__" p2) [argF m y j p3 q1 q2 q3] [] p4) (PySem.W.ksEnv qual scope L g (.ref cda) cc) = (do
    let ov ← attributeBase (.Call (.Name "super" p0) [] [] p1) "__init__" (PySem.W.ksEnv qual scope L g (.ref cda) cc) (eval (.Call (.Name "super" p0) [] [] p1) (PySem.W.ksEnv qual scope L g (.ref cda) cc))
    standAt p2.atName
    let (f, first) ← holding [ov] (getMethod ov "__init__" pl)
    callWith p4 f first (backTo p4 (starEach [argF m y j p3 q1 q2 q3] (PySem.W.ksEnv qual scope L g (.ref cda) cc))) [])
/-- what the top has left of an own error C that keeps its one value as f: fI is its __init__ (self, y) -/
structure ErrF (prog : Program) (K : PySem.W.Frag) (C fI : Addr) (f y m : Str) (B newId initId : String) (bmB : List Value) : Prop where
  base : ExBase B newId initId bmB
  init : PySem.W.findIn K (.ref C) "__init__" = some (some (.ref fI))
  made : PySem.W.excInitIn K C bmB newId = true
  isf : PySem.W.isFn K (.ref fI) = true
  sa : PySem.W.findIn K (.ref C) "__setattr__" = some (some (.builtin "object.__setattr__"))
  over : PySem.W.excOver K C bmB = true
  tk : PySem.W.takerIn K C f = some none
  hd : PySem.W.hasDictIn K C = true
  sup : PySem.W.ks_superIn K C C "__init__" = some (some (.builtin initId))
  subB : PySem.W.subIn K (.ref C) (.type B) = some true
  exC : PySem.W.subIn K (.ref C) (.type "BaseException") = some true
  tyC : PySem.W.typeIn K (.ref C) = some (.type "type")
  kC : PySem.W.keepIn K (.ref C) = true
  opq : PySem.W.nsIn K cStatics "thirdparty.any" = some none
  slf : PySem.W.mroIn K C (.ref C) = some true
  clsC : ∃ cd, PySem.W.clsIn K C = some cd
  fn : ∃ (name qual : Str) (params : Arguments) (body : List Stmt) (scope : Scope) (kV doc pm ct oc : Value) (an od : Option Addr) (osl : Array (Option Value)) (cc cda : Addr) (cl : Value) (cld : Option Addr) (csl : Array (Option Value)) (ccl : Value) (cdd : Option Addr) (ccs : Array (Option Value)) (vs : Array Value) (file : Str) (tf : Tok) (j : Nat) (pa pb p0 p1 p2 p3 p4 p5 p6 p7 p8 p9 q1 q2 q3 : Pos),
    K.lookup fI = some ⟨oc, od, .func (PySem.W.ksFn name qual params body scope .none kV doc pm an (.ref cda) ct cc), osl⟩ ∧ PySem.W.codeIn K (.ref cda) qual = true ∧
    params = { posonlyargs := [], args := [⟨"self", none, pa⟩, ⟨y, none, pb⟩], vararg := none, kwonlyargs := [], kw_defaults := [], kwarg := none, defaults := [] } ∧
    body = [.Expr (.Call (.Attribute (.Call (.Name "super" p0) [] [] p1) "__init__" p2) [argF m y j p3 q1 q2 q3] [] p4) p5, .Assign [.Attribute (.Name "self" p6) f p7] (.Name y p8) p9] ∧
    scope.kind = .function ∧ scope.isCoroutine = false ∧ scope.isGenerator = false ∧ (∀ x ∈ scope.names, x.2 ≠ .cell) ∧
    scope.names.lookup ("self" : Str) = some .local ∧ scope.names.lookup y = some .local ∧ scope.names.lookup ("super" : Str) = some .globalImplicit ∧ scope.names.lookup ("__class__" : Str) = some .free ∧
    InitEnvF qual scope f y m j p0 p1 p2 p3 p4 p5 p6 p7 p8 p9 q1 q2 q3 ∧ (∀ a b : Value, bindArgs (PySem.W.ksFn name qual params body scope .none kV doc pm an (.ref cda) ct cc) ⟨[a, b], []⟩ = pure [(("self" : Str), a), (y, b)]) ∧ (("self" : Str) == y) = false ∧ (y == ("__debug__" : Str)) = false ∧
    K.lookup cc = some ⟨cl, cld, .cell (some (.ref C)), csl⟩ ∧ K.lookup cda = some ⟨ccl, cdd, .fields vs, ccs⟩ ∧ vs[2]? = some (.str file tf) ∧ ((prog.main.file : Str) == file) = true
  htop : (prog.main.scope.names.lookup ("super" : Str)).isSome = false
section
variable [Lam] [Pins] {X : Cx} {W : WX}
end
end Mr
namespace GQ
open PySem PySem.SeqAt
open AutoSeq1 (wpAny_loadPart')
open MeetsSeq MeetsSeq2 MeetsSeq3 SeqRoads2
section
variable {prog : Program} {w : World} {A : Around} {R : Result → Shared → Prop}
end
section
variable {prog : Program} {w : World} {A : Around} {E : Value → Shared → Prop} {s : Shared}
end
end GQ
namespace Mr
open PySem PySem.Spec PyProof.Rows L2
variable [Lam] [Pins]
section
variable {X : Cx} {W : WX} {k : Nat} {f : Addr} {fd : FuncData} {ps : List Str} {sp : Sp} {c : Str} {m : List D → FR D}
end
end Mr
namespace Mr
open PySem PySem.Spec PyProof.Rows L2
variable [Lam] [Pins]
section
variable {X : Cx} {W : WX}
end
end Mr
namespace Mr
open PySem PySem.Spec PyProof.Rows L2
variable [Lam] [Pins]
section
variable {X : Cx} {W : WX}
end
end Mr
namespace GNext
open PySem PySem.Spec PyProof.Rows L2 LamX
section
variable {X : Cx} {pins : List (Addr × Obj)} {σ : L2.St} {H : Hp} {s : Shared}
end
section
variable {prog : Program} {w : World} {A : Around} {E : Value → Shared → Prop} {s : Shared}
end
section
variable {X : Cx}
end
end GNext
namespace GNext
open PySem PySem.Spec PyProof.Rows L2 LamX
section
variable {X : Cx} {σ : L2.St} {H1 : Hp}
end
end GNext
namespace Mr
open PySem PySem.Spec PyProof.Rows L2 LamX
section
variable [Lam] [P0 : Pins]
end
end Mr
namespace RevT
open PySem PySem.Spec PyProof.Rows L2 HT
theorem fm_map {α β : Type} {f : α → Option β} {g : α → β} : ∀ {l : List α}, (∀ x ∈ l, f x = some (g x)) → l.filterMap f = l.map g
  | [], _ => rfl
  | x :: l, h => by
    rw [List.filterMap_cons, h x (List.mem_cons_self ..), fm_map fun y hy => h y (List.mem_cons_of_mem _ hy)]; rfl
section
variable {prog : Program} {w : World} {A : Around} {E : Value → Shared → Prop} {s : Shared}
theorem places_down (n : Nat) : Builtin.Slice.slicePlaces ((n : Int) - 1) (-1) (-1) = n := by
  unfold Builtin.Slice.slicePlaces
  simp
  split <;> omega
theorem adjust_down (n : Nat) : Builtin.Slice.sliceAdjust none none (-1) (n : Int) = ((n : Int) - 1, -1) := by
  unfold Builtin.Slice.sliceAdjust
  simp
theorem sliceApplied_down {sl : Addr} {vl vu vs : Value} {n : Nat} {Q : Int × Int × Nat → Shared → Prop} (hs : s.heap.IsSliceOf sl vl vu vs) (pl : IsPart vl none) (pu : IsPart vu none) (ps : IsPart vs (some (-1)))
    (h : Q ((n : Int) - 1, -1, n) s) : wpAny (model prog w) A (Builtin.Slice.sliceApplied (.ref sl) (pure (n : Int))) Q E s := by
  obtain ⟨os, hos, hcs, hds⟩ := id hs
  unfold Builtin.Slice.sliceApplied Builtin.Slice.sliceFields
  refine wpAny_bind (wpAny_bind (wpAny_field hos hds (x := vl) rfl (wpAny_bind (wpAny_field hos hds (x := vu) rfl (wpAny_bind (wpAny_field hos hds (x := vs) rfl (wpAny_pure ?_)))))))
  refine wpAny_bind (slicePart_ ps ?_)
  show wpAny _ _ (if ((-1 : Int) == 0) = true then _ else _) _ _ s
  rw [if_neg (by decide)]
  refine wpAny_bind (slicePart_ pl (wpAny_bind (slicePart_ pu (wpAny_bind (wpAny_pure ?_)))))
  show wpAny _ _ (match Builtin.Slice.sliceAdjust none none (-1) (n : Int) with | (lo, hi) => pure (lo, (-1 : Int), Builtin.Slice.slicePlaces lo hi (-1))) _ _ s
  rw [adjust_down n]
  show wpAny _ _ (pure ((n : Int) - 1, (-1 : Int), Builtin.Slice.slicePlaces ((n : Int) - 1) (-1) (-1))) _ _ s
  rw [places_down]
  exact wpAny_pure h
theorem pick_down (xs : Array Value) : ((List.range xs.size).filterMap fun (m : Nat) => xs[(((xs.size : Nat) : Int) - 1 + (m : Int) * (-1)).toNat]?).toArray = xs.toList.reverse.toArray := by
  congr 1
  refine List.ext_getElem? fun i => ?_
  have e : (List.range xs.size).filterMap (fun (m : Nat) => xs[(((xs.size : Nat) : Int) - 1 + (m : Int) * (-1)).toNat]?) = (List.range xs.size).map fun m => xs.getD (xs.size - 1 - m) .none := by
    refine fm_map fun m hm => ?_
    have hm := List.mem_range.mp hm
    have q : (((xs.size : Nat) : Int) - 1 + (m : Int) * (-1)).toNat = xs.size - 1 - m := by omega
    rw [q]
    have l : xs.size - 1 - m < xs.size := by omega
    simp [Array.getD, l]
  rw [e, List.getElem?_map]
  by_cases c : i < xs.size
  · rw [List.getElem?_range c, List.getElem?_reverse (by simpa using c)]
    have l : xs.size - 1 - i < xs.size := by omega
    simp [Array.getD, l]
  · rw [List.getElem?_eq_none (by simpa using c), List.getElem?_eq_none (by simpa using c)]; rfl
theorem getItem_tuple_down {t sl : Addr} {items : Array Value} {vl vu vs : Value} {Q : Value → Shared → Prop} (ht : IsTup s.heap t items) (hs : s.heap.IsSliceOf sl vl vu vs) (pl : IsPart vl none) (pu : IsPart vu none) (ps : IsPart vs (some (-1)))
    (h : Q (.ref s.heap.objs.size) { s with heap := s.heap.push { cls := .type "tuple", data := .seq items.toList.reverse.toArray } })
    (hsz : items.size ≤ sizeLine) : wpAny (model prog w) A (getItem (.ref t) (.ref sl)) Q E s := by
  have htake : sizeOk (.seq items.toList.reverse.toArray) := by
    show items.toList.reverse.toArray.size ≤ sizeLine
    rw [List.size_toArray, List.length_reverse, Array.length_toList]
    exact hsz
  obtain ⟨os, hos, hcs, hds⟩ := id hs
  have hTs : s.TypeIs (.ref sl) "slice" := ⟨os, hos, hcs⟩
  unfold getItem
  try with_reducible refine wpAny_holding ?_
  first | refine wpAny_bind (wpAny_pure ?_) | skip
  refine wpAny_bind (wpAny_sequenceKey ht.typeIs (by decide) ?_)
  refine wpAny_bind (wpAny_callSpecial?_slot (name := Str.ofString "__getitem__") ht.typeIs PyProof.Rows.slot_tuple_getitem
    (wpAny_call_entry PyProof.Rows.slot_tuple_getitem ht.typeIs entry_tuple_getitem ?_ (args_tuple_getitem _ _)))
  show wpAny _ _ (Builtin.Tuple.tupleItemsOf (.ref t) >>= _) _ _ s
  refine wpAny_bind (tupleItemsOf_ ht ?_)
  refine wpAny_bind (wpAny_typeOf hTs ?_)
  rw [if_pos (by decide)]
  refine wpAny_bind (sliceApplied_down hs pl pu ps ?_)
  show wpAny _ _ (if ((((items.size : Nat) : Int) - 1) == 0 && (-1 : Int) == 1 && items.size == items.size) = true then _ else _) _ _ s
  rw [if_neg (by simp), pick_down]
  first
    | exact wpAny_bind (m := Builtin.Tuple.tupleExact _) (wpAny_newObj_type (wpAny_pure ⟨_, rfl, wpAny_pure h⟩) htake)
    | exact wpAny_bind (m := Builtin.Tuple.tupleExact _) (wpAny_newObj_type (wpAny_bind (wpAny_pure (wpAny_pure ⟨_, rfl, wpAny_pure h⟩))) htake)
    | exact wpAny_bind (wpAny_bind (m := Builtin.Tuple.tupleExact _) (wpAny_newObj_type (wpAny_pure (wpAny_pure ⟨_, rfl, wpAny_pure h⟩)) htake))
    | exact wpAny_bind (wpAny_bind (m := Builtin.Tuple.tupleExact _) (wpAny_newObj_type (wpAny_pure ⟨_, rfl, wpAny_pure h⟩) htake))
end
/-- t[::-1] -/
def tRev (K : PySem.W.Frag) (te : TE) : TE := fun σ H Q => te σ H fun x H1 => ∃ a xs, x = .ref a ∧ ((SqL K H1 a xs ∧ ∀ p, H1 p = none → Q (.ref p) (upd H1 p (.lst xs.reverse))) ∨ (SqT K H1 a xs ∧ ∀ p o, o.dict = none → H1 p = none → Q (.ref p) (upd H1 p (.frz o (.tup xs.reverse)))))
section
variable {X : Cx}
theorem pe_rev {e : Expr} {te : TE} {k : Nat} {p1 p2 p3 pos : Pos} (he : PE X e te) : PE X (.Subscript e (.Slice none none (some (.UnaryOp .USub (.Constant (.int 1) k p1) p2)) p3) pos) (tRev X.K te) := by
  refine ⟨fun pins s σ H Q I h => ?_⟩
  refine Subscript_ (thn (he.run pins s σ H _ I h) fun v s1 ⟨x, H1, I1, r1, q1⟩ => ?_)
  obtain ⟨a, xs, ex, q⟩ := q1
  subst ex
  cases r1
  have hst : PO X (some (.UnaryOp .USub (.Constant (.int 1) k p1) p2)) (tPart (tUn (rU fun i => .int (-i)) (tC (.int 1)))) := po_some (pe_un un_neg pe_int)
  refine wpAny_Slice (thn (po_none.run pins s1 σ H1 (fun o H2 => o = none ∧ H2 = H1) I1 ⟨rfl, rfl⟩) fun vl s2 ⟨l, H2, I2, pl, el, e2⟩ => ?_)
  subst el e2
  refine thn (po_none.run pins s2 σ H2 (fun o H3 => o = none ∧ H3 = H2) I2 ⟨rfl, rfl⟩) fun vu s3 ⟨u, H3, I3, pu, eu, e3⟩ => ?_
  subst eu e3
  refine thn (hst.run pins s3 σ H3 (fun o H4 => o = some (-1) ∧ H4 = H3) I3 ⟨1, rfl, -1, rfl, rfl, rfl⟩) fun vs s4 ⟨o, H4, I4, ps, eo, e4⟩ => ?_
  subst eo e4
  have I5 : Inv X pins σ H4 { s4 with heap := s4.heap.push { cls := .type "slice", data := .fields #[vl, vu, vs] } } := I4.kept (t' := s4.toks) fun b ob q => Heap.get?_push_of_some _ q
  show wpAny (model X.prog X.w) X.A (subscriptTail e (.Slice none none (some (.UnaryOp .USub (.Constant (.int 1) k p1) p2)) p3) (.ref a) (.ref s4.heap.objs.size)) (EP X pins σ Q) X.xe { s4 with heap := s4.heap.push { cls := .type "slice", data := .fields #[vl, vu, vs] } }
  rcases q with ⟨hx, q⟩ | ⟨hx, q⟩
  · obtain ⟨its, r, ht, hz⟩ := I5.list hx
    have hlen := r.length
    refine tail_any (ops := [.ref a, .ref s4.heap.objs.size]) ht.isList.typeIs (PySem.slot_list_getitem.lookup) ?_ (by with_unfolding_all rfl)
    refine wpAny_getItem_list_slice ht.isList (Heap.IsSliceOf.new _ vl vu vs) pl pu ps (by decide) ?_ (by rw [List.size_toArray]; omega)
    rw [PySem.W.krv_pick]
    refine ⟨.ref _, _, I5.laid (t' := s4.toks) (o := .lst xs.reverse) (fun b ob q => Heap.get?_push_of_some _ q) (Nat.le_refl _) ?_, rfl, q _ (I5.hok.fresh (Nat.le_refl _))⟩
    exact ⟨by rw [List.length_reverse]; exact hz, _, 0, r.reverse, Heap.get?_push_size _ rfl⟩
  · obtain ⟨its, r, ht, hz⟩ := I5.tuple hx
    have hlen := r.length
    refine tail_any (ops := [.ref a, .ref s4.heap.objs.size]) ht.typeIs (PyProof.Rows.slot_tuple_getitem.lookup) ?_ (by with_unfolding_all rfl)
    refine getItem_tuple_down ht (Heap.IsSliceOf.new _ vl vu vs) pl pu ps ?_ (by rw [List.size_toArray]; omega)
    exact ⟨.ref _, _, I5.laid (t' := s4.toks) (o := .frz { cls := .type "tuple", data := .seq its.toArray.toList.reverse.toArray } (.tup xs.reverse)) (fun b ob q => Heap.get?_push_of_some _ q) (Nat.le_refl _) ⟨Heap.get?_push_size _ rfl, by rw [List.length_reverse]; exact hz, its.reverse, r.reverse, ⟨_, Heap.get?_push_size _ rfl, rfl, 0, by simp⟩⟩, rfl, q _ _ rfl (I5.hok.fresh (Nat.le_refl _))⟩
end
end RevT
namespace Mr
open PySem PySem.Spec PyProof.Rows L2
def revD : D → FR D
  | .tup xs => .ok (.tup xs.reverse)
  | .lst xs => .ok (.lst xs.reverse)
  | _ => .stuck
section
variable [Lam] [P0 : Pins]
theorem reps_rev {K : PySem.W.Frag} {F : Hp} : ∀ {vs : List V} {ds : List D}, Reps K F vs ds → Reps K F vs.reverse ds.reverse
  | [], [], _ => .nil
  | v :: vs, d :: ds, .cons r rr => by
    rw [List.reverse_cons, List.reverse_cons]
    exact (reps_rev rr).append (.cons r .nil)
theorem AE.rev {X : Cx} {W : WX} {e : Expr} {fe : M D} {k : Nat} {p1 p2 p3 pos : Pos} (h : AE X W e fe) : AE X W (.Subscript e (.Slice none none (some (.UnaryOp .USub (.Constant (.int 1) k p1) p2)) p3) pos) (m1 revD fe) := by
  obtain ⟨t, pe, qe⟩ := h
  refine ⟨_, RevT.pe_rev pe, fun G σ H F ρ Q S hg => qe G σ H F ρ _ S (hg.bind fun d ρ1 H1 F1 S1 s1 g1 v r1 => ?_)⟩
  cases r1 with
  | lst hx rx => exact ⟨_, _, rfl, .inl ⟨.of (S1.sub _ _ hx), fun p hp => newLst S1 (reps_rev rx) g1 hp⟩⟩
  | tup hx rx hnq => exact ⟨_, _, rfl, .inr ⟨SqTm S1.sub hx, fun p o hd hp => newTup S1 (reps_rev rx) g1 hp hd⟩⟩
  | _ => exact g1.elim
end
end Mr
namespace Mr
open PySem PySem.Spec PyProof.Rows L2
/-- x.count(k): the list is looked at ahead of the argument -/
def mCount (fo fe : M D) : M D := fun ρ => (fo ρ).bind fun x ρ => match x with
  | .lst xs => (fe ρ).bind fun k ρ => match k, intsD xs with
    | .int k, some ns => .ok (.int (ns.count k : Nat)) ρ
    | _, _ => .stuck
  | _ => .stuck
section
variable [Lam] [P0 : Pins]
variable {X : Cx} {W : WX}
theorem AE.count {o e : Expr} {fo fe : M D} {ap cp : Pos} (ho : AE X W o fo) (ha : AE X W e fe) (hst : starEach [e] X.env = (false, eval e X.env) :: starEach [] X.env := by rfl)
    (hbase : attributeBase o "count" X.env (eval o X.env) = eval o X.env := by rfl)
    (hfew : ((backTo cp (starEach [e] X.env)).all (fun x => !x.1) && (backToKw cp (keywordEach [] X.env)).all (fun x => x.1.isSome)
      && decide ([e].length + ([] : List Keyword).length + (if ([] : List Keyword).isEmpty then 0 else 1) < 30)) = true := by rfl)
    (hline : (ap.endLine == cp.line) = true := by rfl) (hplain : (backTo cp (starEach [] X.env)).any (·.1) = false := by rfl) :
    AE X W (.Call (.Attribute o "count" ap) [e] [] cp) (mCount fo fe) := by
  obtain ⟨to, po, qo⟩ := ho
  obtain ⟨t, p, q⟩ := ha
  refine ⟨_, pe_bm PySem.F.plainAttrs_list PySem.F.slot_list_count PySem.F.type_list_count mt_lcount po (pa_cons p pa_nil hst) hbase hfew hline hst hplain, fun G σ H F ρ Q S hg => ?_⟩
  refine qo G σ H F ρ _ S (hg.bind fun d ρ1 H1 F1 S1 s1 g1 v r1 => ?_)
  cases r1 with
  | lst hx rx =>
    refine ⟨.inl ⟨rfl, _, .of (S1.sub _ _ hx)⟩, q G σ H1 F1 ρ1 _ S1 (Good.bind g1 fun k ρ2 H2 F2 S2 s2 g2 u r2 => ?_)⟩
    split at g2
    · rename_i k0 k ns hn
      cases r2
      have ev := reps_ints rx hn
      subst ev
      exact ⟨_, ns, k, rfl, rfl, .of (S2.sub _ _ (s2 _ _ hx)), g2 H2 F2 S2 Sm.refl _ (.int _)⟩
    · exact g2.elim
  | _ => exact g1.elim
end
end Mr
namespace Mr
open PySem PySem.Spec PyProof.Rows L2
section
variable {prog : Program} {w : World} {A : Around} {E : Value → Shared → Prop}
end
section
variable [Lam] [P0 : Pins]
variable {X : Cx} {W : WX}
end
end Mr
namespace Mr
open PySem PySem.Spec PyProof.Rows L2
mutual
/-- no dict is in it -/
def noD : D → Bool
  | .non => true
  | .bl _ => true
  | .int _ => true
  | .str _ => true
  | .tup xs => noDs xs
  | .lst xs => noDs xs
  | .frz xs => noDs xs
  | .obj _ _ ds => noDs ds
  | .dct _ _ => false
  | .opq _ => true
  | .any => true
def noDs : List D → Bool
  | [] => true
  | x :: xs => noD x && noDs xs
end
/-- a slot while a dict is locked: values with a dict in them are out of sight -/
def hidS : SV → SV
  | .val d => if noD d = true then .val d else .un
  | sv => sv
section
variable [Lam] [P0 : Pins]
@[reducible] def pinK (j : Nat) (d : Addr) (o : HO) : Pins := ⟨(j, .ref d) :: P0.pv, fun a => if a = d then some o else P0.pf a⟩
variable {K : PySem.W.Frag} {G : Ent} {σ : St} {H F H' F' : Hp} {ρ ρ' : Ro} {j : Nat} {d : Addr} {od : Obj} {ks : List Key} {vs : List V} {ds : List D}
end
section
variable [Lam] [P0 : Pins] {X : Cx} {W : WX} {tg elt : Expr} {ifs : List Expr} {t : Tg} {tc : M Bool} {el : M D} {own : List (Str × Nat)} {scope : Scope} {pos : Pos}
end
end Mr
namespace GFst
open PySem PySem.Spec PyProof.Rows L2
section
variable {prog : Program} {w : World} {A : Around} {E : Value → Shared → Prop} {env : Env} {s : Shared} {K : PySem.W.Frag} {mg : Str → Option Value}
end
section
variable {prog : Program} {w : World} {A : Around} {E : Value → Shared → Prop} {s : Shared} {K : PySem.W.Frag} {mg : Str → Option Value}
/-- the names of value_at -/
structure VaNames (scope cscope : Scope) : Prop where
  kr : scope.names.lookup ("row" : Str) = some .local
  kp : scope.names.lookup ("point" : Str) = some .local
  kz : scope.names.lookup ("zip" : Str) = some .globalImplicit
  ks : scope.names.lookup ("sum" : Str) = some .globalImplicit
  cs : cscope.kind = .function
  cc : ∀ y ∈ cscope.names, y.2 ≠ .cell
  cf : ∀ y ∈ cscope.names, y.2 ≠ .free
  cn : ∀ y ∈ cscope.names, y.2 = .local → cscope.names.lookup y.1 = some .local
  ca : cscope.names.lookup ("one" : Str) = some .local
  cb : cscope.names.lookup ("other" : Str) = some .local
end
end GFst
namespace GFst
open PySem PySem.Spec PyProof.Rows L2 LamX GNext
section
variable {X : Cx} {pins : List (Addr × Obj)} {σ : L2.St} {H : Hp} {s : Shared}
end
end GFst
namespace GFst
open PySem PySem.Spec PyProof.Rows L2 LamX GNext
theorem vals_ints : ∀ {ns : List Int} {us : List Value}, Vals (ns.map V.int) us → IntsAre us ns
  | [], _, .nil => .nil
  | n :: ns, _, .cons r rr => by
    obtain ⟨t, rfl⟩ := r
    exact .cons n t (vals_ints rr)
theorem Mod.up {K : PySem.W.Frag} {mg : Str → Option Value} {h h' : Heap} (M : Mod K mg h) (k : ∀ b o, h.get? b = some o → h'.get? b = some o) : Mod K mg h' :=
  ⟨M.kin.keeps k, M.glob.keeps k, let ⟨mb, b1, b2⟩ := M.blt; ⟨mb, b1.keeps k, b2⟩, M.nolimit.keeps k⟩
section
variable {X : Cx} {σ : L2.St} {H1 : Hp}
end
end GFst
namespace GFst
open PySem PySem.Spec PyProof.Rows L2 LamX GNext
section
variable {X : Cx}
end
end GFst
namespace Mr
open PySem PySem.Spec PyProof.Rows L2 LamX
section
variable [Lam] [P0 : Pins]
end
end Mr
namespace Mr
open PySem PySem.Spec PyProof.Rows L2
/-- .. not covered -/
def mStuck : M D := fun _ => .stuck
variable [Lam] [Pins]
theorem AE.stuck {X : Cx} {W : WX} {e : Expr} : AE X W e mStuck := ⟨fun _ _ _ => False, ⟨fun _ _ _ _ _ _ h => h.elim⟩, fun _ _ _ _ _ _ _ hg => hg.elim⟩
end Mr
namespace Mr
open PySem PySem.Spec PyProof.Rows L2
section
variable [Lam] [Pins]
variable {X : Cx} {W : WX} {k n i j : Nat} {f : Addr} {fd : FuncData} {ps : List Str} {x y : Str} {p py pos : Pos} {e : Expr} {es : List Expr} {fs : M (List D)} {mi : SV → List D → IR}
end
section
variable [Lam] [Pins]
variable {X : Cx} {W : WX}
end
section
variable [Lam] [Pins]
end
end Mr
namespace Mr
open PySem PySem.Spec PyProof.Rows L2 LamX
/-- one parameter, no other name of its own: captured ones and globals -/
structure LamS1 (sc scope : Scope) (a : Str) : Prop where
  kind : scope.kind = .function
  co : scope.isCoroutine = false
  gen : scope.isGenerator = false
  own : ∀ y ∈ scope.names, y.2 ≠ .cell ∧ (y.2 = .local → y.1 = a)
  loc : scope.names.lookup a = some .local
  free : ∀ y ∈ scope.names, y.2 = .free → sc.names.lookup y.1 = some .cell ∨ sc.names.lookup y.1 = some .free
theorem LamS1.has {X : Cx} {scope : Scope} {a : Str} (L : LamS1 X.env.scope scope a) (ok : X.Ok) : ∀ y ∈ scope.names, y.2 = .free → ∃ c, X.env.cells.lookup y.1 = some c := fun y hy e => by
  rcases L.free y hy e with k | k
  · exact ok.has _ (.inl k)
  · exact ok.has _ (.inr k)
section
variable {X : Cx} {pins : List (Addr × Obj)} {σ : L2.St} {H HZ : Hp} {s s1 : Shared}
theorem lam_start1 {A : Around} {outer : List Env} {E : XK} {scope : Scope} {a : Str} {ja : Nat} {v : V} {u : Value} {f c' : Addr} {h₁ : Heap} {tk : Nat} (I : Inv X pins σ H s) (L : LamS1 X.env.scope scope a) (hnd : X.N.Nodup) (hja : X.N[ja]? = some a) (rv : RelV v u) (e0 : Env0 X.prog X.w X.K X.mg X.base A outer s1 HZ) (hd : A.handled = none)
    (un : Un (frs X.stack) [] H HZ s.heap s1.heap) (hns : h₁.Ns s1.heap.objs.size fun y => ([(a, u)] : List (Str × Value)).reverse.lookup y) (kp : ∀ b o, s1.heap.get? b = some o → h₁.get? b = some o) :
    Inv (lamCxN X A outer s1 HZ E scope f c') [] (σ.set ja (some v)) HZ { s1 with heap := h₁, toks := tk } := by
  have hfree := L.has I.ok
  have cm : ∀ {y c}, (cloFrom X.env.cells scope.names []).lookup y = some c → X.env.cells.lookup y = some c := fun {y c} e => by
    rcases cloFrom_mem (PySem.mem_of_lookup e) with hm | ⟨h1, h2⟩
    · cases hm
    · obtain ⟨c1, hc⟩ := hfree _ h1 rfl
      have hc : X.env.cells.lookup y = some c1 := hc
      have e2 : c = c1 := by
        rw [h2, hc] <;> rfl
      rw [e2]
      exact hc
  have look : ∀ {y}, scope.names.lookup y = some .free → ∃ c, (cloFrom X.env.cells scope.names []).lookup y = some c := fun {y} hl => by
    have hy : (y, NameKind.free) ∈ scope.names := PySem.mem_of_lookup hl
    exact mem_lookup (cloFrom_has (cells := X.env.cells) (acc := []) hy)
  have cellK : ∀ {c : Addr} {v : Option Value}, H c = none → s.heap.IsCell c v → h₁.IsCell c v := fun {c v} n ⟨o, ho, hd⟩ => by
    obtain ⟨sl, q⟩ := un.any ho n (by simp)
    exact ⟨_, kp _ _ q, hd⟩
  have noA : ∀ b : Addr, b ∉ (lamCxN X A outer s1 HZ E scope f c').ex := fun b z => absurd (show b ∈ ([] : List Addr) from z) (by simp)
  have lens : (σ.set ja (some v)).length = X.N.length := by rw [List.length_set]; exact I.len
  refine ⟨⟨e0.mod, L.kind, rfl, rfl, Nat.le_refl _, fun y z c e1 e2 => I.ok.inj y z c (cm e1) (cm e2), fun y hy => ?_, fun y c z _ => ?_, fun _ => hd, Around.frames_deeper e0.frames, .inr ⟨rfl, rfl⟩, fun b z => absurd z (noA b), e0.bs, e0.bsz, fun b _ _ => noA b,
      fun b z => absurd z (noA b), e0.funs, e0.frf⟩,
    rfl, e0.bare, Un.kept kp, ⟨_, hns, fun i y v' e1 e2 e3 => ?_⟩, fun y c e => ?_, e0.hok.fresh (Nat.le_refl _), fun y c e => ?_, fun q hq => absurd (show q ∈ ([] : List (Addr × Obj)) ++ [] from hq) (by simp), e0.hok.kept kp, lens⟩
  · have hy : scope.names.lookup y = some .cell ∨ scope.names.lookup y = some .free := hy
    rcases hy with hy | hy
    · exact absurd rfl (L.own _ (PySem.mem_of_lookup hy)).1
    · exact look hy
  · have z : false = true := z
    cases z
  · have e3 : Vis scope y := e3
    have e1 : X.N[i]? = some y := e1
    by_cases hy : y = a
    · subst hy
      have hij : i = ja := by
        obtain ⟨l1, g1⟩ := List.getElem?_eq_some_iff.mp e1
        obtain ⟨l2, g2⟩ := List.getElem?_eq_some_iff.mp hja
        have nd := List.pairwise_iff_getElem.mp hnd
        rcases Nat.lt_trichotomy i ja with q | q | q
        · exact absurd (g1.trans g2.symm) (nd i ja l1 l2 q)
        · exact q
        · exact absurd (g2.trans g1.symm) (nd ja i l2 l1 q)
      subst hij
      have hl : i < σ.length := by rw [I.len]; exact (List.getElem?_eq_some_iff.mp hja).1
      rw [List.getElem?_set_self hl] at e2
      cases e2
      refine ⟨u, rv, .inl ⟨L.loc, ?_⟩⟩
      show (([(y, u)] : List (Str × Value)).reverse.lookup y) = some u
      simp
    · have nij : ja ≠ i := fun z => by
        subst z
        rw [hja] at e1
        cases e1
        exact hy rfl
      rw [List.getElem?_set_ne nij] at e2
      rcases e3 with k | k | k
      · exact absurd ((L.own _ (PySem.mem_of_lookup k)).2 rfl) hy
      · exact absurd rfl (L.own _ (PySem.mem_of_lookup k)).1
      · obtain ⟨m, hn, hl⟩ := I.loc
        have hvis : Vis X.env.scope y := (L.free _ (PySem.mem_of_lookup k) rfl).elim (fun k => .inr (.inl k)) (fun k => .inr (.inr k))
        obtain ⟨w', r, q⟩ := hl i y v' e1 e2 hvis
        obtain ⟨c2, h2⟩ := look k
        refine ⟨w', r, .inr ⟨.inr k, c2, h2, ?_⟩⟩
        have c1 := cm h2
        rcases q with ⟨k', _⟩ | ⟨_, c3, e', z⟩
        · have k' : X.env.scope.names.lookup y = some .local := k'
          rcases L.free _ (PySem.mem_of_lookup k) rfl with k2 | k2 <;> rw [show X.env.scope.names.lookup y = _ from k2] at k' <;> cases k'
        · rw [c1] at e'
          cases e'
          exact cellK (I.freeC y _ c1) z
  · obtain ⟨w', z⟩ := I.cell y c (cm e)
    exact ⟨w', cellK (I.freeC y c (cm e)) z⟩
  · obtain ⟨v, o, ho, hd⟩ := I.cell y c (cm e)
    exact un.free c o ho (I.freeC y c (cm e)) (by simp)
end
/-- the call of what a def was handed, by one value: the list at slot j may change -/
def mBend (fl : SV → D → IR) (j : Nat) (fe : M D) : M D := fun ρ => (fe ρ).bind fun d ρ => if (ρ.getD j .un).isHd = true then match fl (ρ.getD j .un) d with
    | .ok r sv => .ok r (ρ.set j sv)
    | _ => .stuck
  else .stuck
/-- what a def does that changes its first value and calls its last -/
def runB (n : Nat) (g : M Fl) (sv : SV) (ds : List D) : IR := match g (sv :: ds.map .val ++ .pin :: List.replicate (n - (ds.length + 2)) .un) with
  | .ok .nx ρ => .ok .non (ρ.getD 0 .un)
  | .ok (.rt d) ρ => .ok d (ρ.getD 0 .un)
  | _ => .stuck
/-- what a lambda does to a list that its maker was handed (slot j), its parameter at slot ja -/
def flOf (j ja : Nat) (fb : M D) (ρ : Ro) : SV → D → IR := fun sv d => match fb (((stillR ρ).set j sv).set ja (.val d)) with
  | .ok r ρ' => .ok r (ρ'.getD j .un)
  | _ => .stuck
section
variable [Lam] [P0 : Pins]
variable {K : PySem.W.Frag} {G : Ent} {σ τ : L2.St} {H F H2 F2 : Hp} {ρ : Ro}
theorem still_at (hP : P0.pv = []) (S : Stt K G σ H F ρ) (sF : Sm F F2) {jm ja : Nat} {a0 : Addr} {v : V} {d : D} {sv : SV} (ne : jm ≠ ja) (la : ja < ρ.length) (e0 : σ[jm]? = some (some (V.ref a0))) (p : Pre K F2 H2) (q : SlotOk K H2 F2 (some (some (V.ref a0))) sv) (hd : sv.isHd = true) (rv : Rep K F2 v d) :
    Stt K ⟨H2, F2, [(jm, a0)], []⟩ (σ.set ja (some v)) H2 F2 (((stillR ρ).set jm sv).set ja (.val d)) := by
  have ll : (stillR ρ).length = ρ.length := by simp [stillR]
  have ljm : jm < σ.length := (List.getElem?_eq_some_iff.mp e0).1
  have lm : jm < ρ.length := by rw [S.len]; exact ljm
  have g : ∀ i, (((stillR ρ).set jm sv).set ja (.val d)).getD i .un = if i = ja then .val d else if i = jm then sv else (stillR ρ).getD i .un := fun i => by
    rw [getD_set]
    by_cases c : ja = i
    · subst c
      rw [if_pos ⟨rfl, by simp [ll]; exact la⟩, if_pos rfl]
    · rw [if_neg (fun z => c z.1), if_neg (fun z => c z.symm), getD_set]
      by_cases c2 : jm = i
      · subst c2
        rw [if_pos ⟨rfl, by rw [ll]; exact lm⟩, if_pos rfl]
      · rw [if_neg (fun z => c2 z.1), if_neg (fun z => c2 z.symm)]
  have own : ∀ i, ((((stillR ρ).set jm sv).set ja (.val d)).getD i .un).isOwn = true → i = jm := fun i h => by
    rw [g] at h
    split at h
    · cases h
    · split at h
      · assumption
      · rw [still_own] at h; cases h
  have gj : (σ.set ja (some v))[jm]? = some (some (V.ref a0)) := by rw [List.getElem?_set_ne (Ne.symm ne)]; exact e0
  refine ⟨p.sub, p.ft, p.tb, fun _ _ h _ _ => h, Sm.refl, fun _ _ h => .inl h, by simp [ll, S.len], fun i => ?_, fun i j a h1 h2 _ _ => (own i h1).trans (own j h2).symm, fun i a h e => ?_, fun i a h => ?_, fun q h => by simp at h, fun q h => by simp at h, .nil, fun i v h => (by rw [hP] at h; cases h), S.pf.tr sF⟩
  · rw [g]
    by_cases c : i = ja
    · subst c
      rw [if_pos rfl, List.getElem?_set_self (by rw [← S.len]; exact la)]
      exact ⟨v, rfl, rv⟩
    · rw [if_neg c, List.getElem?_set_ne (Ne.symm c)]
      by_cases c2 : i = jm
      · subst c2
        rw [if_pos rfl, e0]; exact q
      · rw [if_neg c2, getD_still]
        have q := S.at_ i
        cases e : ρ.getD i .un with
        | val d => rw [e] at q; obtain ⟨v, e1, r⟩ := q; exact ⟨v, e1, r.mono sF⟩
        | _ => trivial
  · have := own i h
    subst this
    rw [gj] at e
    cases e
    exact .inr (List.mem_cons_self ..)
  · have z : (i, a) = (jm, a0) := by simpa using h
    cases z
    refine ⟨gj, ?_⟩
    rw [g, if_neg ne, if_pos rfl]; exact hd
theorem aft_io {H' F' : Hp} {σ' : L2.St} {jm : Nat} {a0 : Addr} {ρ' : Ro} (S : Stt K ⟨H2, F2, [(jm, a0)], []⟩ σ' H' F' ρ') : AftIo K a0 (ρ'.getD jm .un) H2 F2 H' F' := by
  obtain ⟨e1, e2⟩ := S.io jm a0 (by simp)
  refine ⟨⟨fun b o ne e n => S.same b o e (fun i z => ne ?_) n, fun _ => S.tb⟩, S.sub, S.ext, S.new, fun _ => S.ft, ?_, e2⟩
  · have : (i, b) = (jm, a0) := by simpa using z
    cases this; rfl
  · have q := S.at_ jm
    rw [e1] at q; exact q
end
section
variable [Lam] [P0 : Pins]
@[reducible] def pinB (f a0 : Addr) (p j : Nat) (F : Hp) : Pins := ⟨[(p, .ref f), (j, .ref a0)], F⟩
/-- the lambda at f, called by the def that was handed it -/
theorem lam_run1 {X : Cx} {pins : List (Addr × Obj)} {σ : L2.St} {H F : Hp} {s : Shared} {G : Ent} {ρ : Ro} {Ng : List Str} {nm a ab q : Str} {sg scope : Scope} {g f c a0 : Addr} {cdg pm ctv : Value} {params : Arguments} {body : Expr} {k p j jm ja : Nat} {fb fe : M D} {e : Expr}
    {pn : List (Addr × Obj)} {xe : Value → Shared → Prop} {W : WX} {p1 p2 : Pos} (I : Inv X pins σ H s) (S : Stt X.K G σ H F ρ) (L : LamS1 X.env.scope scope a) (hnd : X.N.Nodup) (hja : X.N[ja]? = some a) (ne : jm ≠ ja) (e0 : σ[jm]? = some (some (V.ref a0))) (eq : q = X.env.qual ++ "<lambda>")
    (of : s.heap.get? f = some (PySem.W.kla_obj "<lambda>" q params body scope (cloFrom X.env.cells scope.names []) pm c ctv)) (Hf : H f = none) (ff : f ∉ frs X.stack)
    (bd : ∀ u, bindArgs (PySem.W.kla_fn "<lambda>" q params body scope (cloFrom X.env.cells scope.names []) pm (.ref c) ctv) ⟨[u], []⟩ = pure [(a, u)]) (room : RoomG (k + 1) (X.A.deeper (envOfC nm sg s.heap.objs.size g cdg)))
    (hb : ∀ (A : Around) (outer : List Env) (s : Shared) (H : Hp) (E : XK), RoomG k (A.deeper (lamEnv X scope s.heap.objs.size f c)) → AE (lamCxN X A outer s H E scope f c) (fun y d _ H => E y d H) body fb)
    (tk : L2N.Takes ((cxT X Ng nm sg g cdg s H).tr pn xe) W) (h0 : Ng[p]? = some ab) (va : Vis sg ab) (hF : F c = some (CodeO c q)) (hP : P0.pv = [])
    (he : @AE _ (pinB f a0 p j F) ((cxT X Ng nm sg g cdg s H).tr pn xe) W e fe) (hs : starEach [e] ((cxT X Ng nm sg g cdg s H).tr pn xe).env = [(false, eval e ((cxT X Ng nm sg g cdg s H).tr pn xe).env)] := by rfl) (nd : (ab == ("__debug__" : Str)) = false := by decide) (nc : (ab == ("__classdict__" : Str)) = false := by decide) :
    @AE _ (pinB f a0 p j F) ((cxT X Ng nm sg g cdg s H).tr pn xe) W (.Call (.Name ab p1) [e] [] p2) (mBend (flOf jm ja fb ρ) j fe) := by
  subst eq
  obtain ⟨te, pe, qe⟩ := he
  refine ⟨fun τ HZ Q => ∃ G2 F2 ρ2, @Stt _ (pinB f a0 p j F) X.K G2 τ HZ F2 ρ2 ∧ @Good _ (pinB f a0 p j F) _ X.K G2 W τ F2 (mBend (flOf jm ja fb ρ) j fe ρ2) (PD X.K Q), ⟨fun pz sz τ HZ Q IZ h => ?_⟩, fun G2 τ HZ F2 ρ2 Q S2 hg => ⟨G2, F2, ρ2, S2, hg⟩⟩
  obtain ⟨G2, F2, ρ2, S2, hg⟩ := h
  have pinP := (@Stt.pin _ (pinB f a0 p j F) _ _ _ _ _ _ S2) p (.ref f) (List.mem_cons_self ..)
  refine wpAny_Call_Name_kw (thn ((pe_var (pos := p1) (i := p) h0 va nd nc).run pz sz τ HZ (fun v H2 => v = .ref f ∧ H2 = HZ) IZ ⟨.ref f, pinP.1, rfl, rfl⟩) fun u s1 hv => ?_)
  obtain ⟨v, H2, I2, rv, ev, eH⟩ := hv
  subst ev eH
  obtain rfl : u = Value.ref f := rv
  have fnF : f ∉ ([] : List Addr) := by simp
  have of1 := I2.base.keep f _ of Hf ff fnF
  refine PySem.W.callWith_F ⟨_, _, _, _, of1⟩ ?_ (by rw [hs]; rfl) rfl
  rw [hs]
  show wpAny _ _ (spliced [(false, eval e ((cxT X Ng nm sg g cdg s H).tr pn xe).env)]) _ _ s1
  refine Calls.spliced_cons (thn (pe.run pz s1 τ H2 (fun v H3 => ∃ F3 ρ3 d, @Stt _ (pinB f a0 p j F) X.K G2 τ H3 F3 ρ3 ∧ Rep X.K F3 v d ∧ @Good _ (pinB f a0 p j F) _ X.K G2 W τ F3 (if (ρ3.getD j .un).isHd = true then match flOf jm ja fb ρ (ρ3.getD j .un) d with
    | .ok r sv => R.ok r (ρ3.set j sv)
    | _ => .stuck
  else .stuck) (PD X.K Q)) I2 (qe G2 τ H2 F2 ρ2 _ S2 ?_)) fun u s3 hh => ?_)
  · exact @Good.bind _ (pinB f a0 p j F) _ _ _ _ _ _ _ _ _ _ _ hg fun d ρ3 H3 F3 S3 s3 g3 v rv => ⟨F3, ρ3, d, S3, rv, g3⟩
  obtain ⟨v, H3, I3, rv, F3, ρ3, d, S3, rd, hg⟩ := hh
  refine Calls.spliced_nil ?_
  have of3 := I3.base.keep f _ of Hf ff fnF
  refine ⟨⟨_, _, _, _, of3⟩, ?_⟩
  split at hg
  · rename_i hhd
    have S3c := S3
    obtain ⟨sub3, kft, ktb, _, _, _, _, kat, _, _, _, _, _, _, kpin, sF⟩ := S3c
    have sF : Sm F F3 := sF
    have pre3 : Pre X.K F3 H3 := ⟨sub3, kft, ktb⟩
    have ej : τ[j]? = some (some (V.ref a0)) := (kpin j (.ref a0) (List.mem_cons_of_mem _ (List.mem_cons_self ..))).1
    have qj : SlotOk X.K H3 F3 (some (some (V.ref a0))) (ρ3.getD j .un) := by
      have q := kat j
      rw [ej] at q; exact q
    have la : ja < ρ.length := by rw [S.len, I.len]; exact (List.getElem?_eq_some_iff.mp hja).1
    have SL := still_at hP S sF ne la e0 pre3 qj hhd rd
    have ub : Un (frs X.stack) [] H H3 s.heap s3.heap := I3.base
    obtain ⟨⟨oc, vs, t, c1, c2, c3⟩, _, _⟩ := I3.hok c _ (sub3 _ _ (sF _ _ hF))
    have go : codeAny (model X.prog X.w) (X.A.deeper (envOfC nm sg s.heap.objs.size g cdg)) (.call (.ref f) ⟨[u], []⟩) (CR (L2N.CX X.prog X.w) (envOfC nm sg s.heap.objs.size g cdg :: X.stack) X.prog X.w H3 s3 Q (WE W τ)) s3 := by
      refine PySem.W.kla_callFunE room.r.depth of3 rfl L.co L.gen rfl ⟨c, oc, vs, t, rfl, c1, c2, c3⟩ ?_
      rw [bd u]
      refine wpAny_pure (wpAny_newFunctionEnv (fun y hy => (L.own y hy).1) (fun y hy => by
        rw [List.mem_singleton.mp hy]; exact L.loc) (fun h2 ns2 sb2 => ⟨I3.nolimit.fresh _ sb2, ?_⟩) L.kind)
      have kp2 : ∀ b o, s3.heap.get? b = some o → h2.get? b = some o := fun b o e => sb2.extBut b o (Nat.ne_of_lt (Heap.lt_size e)) (Heap.get?_push_of_some _ e)
      have J := lam_start1 (tk := s3.toks + ([(a, u)] : List (Str × Value)).length) (E := WE W τ) (f := f) (c' := c) I L hnd hja rv I3.env0 room.r.hd ub ns2 kp2
      obtain ⟨tb, pb, qb⟩ := hb (X.A.deeper (envOfC nm sg s.heap.objs.size g cdg)) (envOfC nm sg s.heap.objs.size g cdg :: X.stack) s3 H3 (WE W τ) (room.deeper _)
      have done : tb (σ.set ja (some v)) H3 Q := by
        refine qb ⟨H3, F3, [(jm, a0)], []⟩ _ H3 F3 _ Q SL ?_
        unfold flOf at hg
        cases ef : fb (((stillR ρ).set jm (ρ3.getD j .un)).set ja (.val d)) with
        | ok r ρ4 =>
          rw [ef] at hg
          intro H' F' S' s' w rw'
          have A := aft_io S'
          have ho := SV.own_of_io hhd
          exact hg H' F' (@Stt.change _ (pinB f a0 p j F) _ _ _ _ _ _ _ _ S3 _ _ _ ho ej A.h A.sub A.f A.new (A.ft kft) A.at_ (SV.own_of_io A.own) (A.own.trans hhd.symm)) A.f w rw'
        | exc x ρ4 => rw [ef] at hg; exact hg.elim
        | stuck => rw [ef] at hg; exact hg.elim
      refine PySem.W.kla_codeExpr (wpAny_mono (pb.run [] _ _ H3 Q J done) (fun v s' hq => ?_) fun e s' hq => hq)
      obtain ⟨w, H', J', rw_, q⟩ := hq
      exact ⟨w, H', J'.os, J'.bare, J'.base, J'.hok, rw_, q⟩
    refine wpAny_call (codeAny_mono go fun r s' hq => ?_)
    cases r with
    | error e => exact L2N.passAt tk τ pz _ _ e s' I3 hq
    | ok fl =>
      cases fl with
      | ret u => exact I3.after hq
      | _ => exact hq.elim
  · exact hg.elim
end
section
variable [Lam] [P0 : Pins]
/-- the promise of a def of three values that changes its first and calls its last: gm, by what that call does -/
def BendOk (P : Program) (w : World) (K : PySem.W.Frag) (mg : Str → Option Value) (base : Heap) (k : Nat) (g : Addr) (nm : Str) (Ng : List Str) (sg : Scope) (bg : List Stmt) (ab : Str) (gm : (SV → D → IR) → M Fl) : Prop :=
  ∀ (cdg : Value) (A : Around) (outer : List Env) (s : Shared) (H F : Hp) (f a0 : Addr) (fl : SV → D → IR), RoomG k (A.deeper (envOfC nm sg s.heap.objs.size g cdg)) →
    (∀ (e : Expr) (fe : M D) (p1 p2 : Pos), L2N.Takes (cxOf (L2N.CX P w) P w K mg base Ng nm sg g cdg A outer s H E0F) W0 →
      @AE _ (pinB f a0 2 0 F) (cxOf (L2N.CX P w) P w K mg base Ng nm sg g cdg A outer s H E0F) W0 e fe →
      starEach [e] (cxOf (L2N.CX P w) P w K mg base Ng nm sg g cdg A outer s H E0F).env = [(false, eval e (cxOf (L2N.CX P w) P w K mg base Ng nm sg g cdg A outer s H E0F).env)] →
      @AE _ (pinB f a0 2 0 F) (cxOf (L2N.CX P w) P w K mg base Ng nm sg g cdg A outer s H E0F) W0 (.Call (.Name ab p1) [e] [] p2) (mBend fl 0 fe)) →
    @AB _ (pinB f a0 2 0 F) (cxOf (L2N.CX P w) P w K mg base Ng nm sg g cdg A outer s H E0F) W0 bg (gm fl)
/-- the slots of such a def -/
theorem stt_bend {K : PySem.W.Frag} {H F : Hp} {N : List Str} {f a0 : Addr} {v : V} {d : D} {sv : SV} (p : Pre K F H) (hN : 2 < N.length) (q : SlotOk K H F (some (some (V.ref a0))) sv) (hd : sv.isHd = true) (rv : Rep K F v d) :
    @Stt _ (pinB f a0 2 0 F) K ⟨H, F, [(0, a0)], []⟩ (L2.start N [V.ref a0, v, V.ref f]) H F (sv :: .val d :: .pin :: List.replicate (N.length - 3) .un) := by
  have own : ∀ i, ((sv :: .val d :: .pin :: List.replicate (N.length - 3) SV.un).getD i .un).isOwn = true → i = 0 := fun i h => by
    match i, h with
    | 0, _ => rfl
    | 1, h => cases h
    | 2, h => cases h
    | i + 3, h =>
      have h : ((List.replicate (N.length - 3) SV.un).getD i .un).isOwn = true := h
      rw [getD_rep] at h; cases h
  refine @Stt.mk _ (pinB f a0 2 0 F) _ _ _ _ _ _ p.sub p.ft p.tb (fun _ _ h _ _ => h) Sm.refl (fun _ _ h => .inl h) (by simp [L2.start]) (fun i => ?_) (fun i j a h1 h2 _ _ => (own i h1).trans (own j h2).symm) (fun i a h e => ?_) (fun i a h => ?_) (fun q h => by simp at h) (fun q h => by simp at h) .nil (fun i v h => ?_) Sm.refl
  · match i with
    | 0 => exact q
    | 1 => exact ⟨v, rfl, rv⟩
    | 2 => trivial
    | i + 3 =>
      show SlotOk K H F _ ((List.replicate (N.length - 3) SV.un).getD i .un)
      rw [getD_rep]; trivial
  · have := own i h
    subst this
    have e : some (some (V.ref a0)) = some (some (V.ref a)) := e
    cases e
    exact .inr (List.mem_cons_self ..)
  · have z : (i, a) = (0, a0) := by simpa using h
    cases z
    exact ⟨rfl, hd⟩
  · have h : (i, v) ∈ [(2, V.ref f), (0, V.ref a0)] := h
    rcases List.mem_cons.mp h with z | h
    · cases z; exact ⟨rfl, rfl⟩
    · have z := List.mem_singleton.mp h
      cases z
      exact ⟨rfl, SV.isHd_io hd⟩
/-- g(y, e, lambda a: body): y, a list that the maker was handed, changed by g and by the lambda -/
def mLamB (m : (SV → D → IR) → SV → List D → IR) (j ja : Nat) (fe fb : M D) : M D := fun ρ => if (ρ.getD j .un).isOwn = true then (fe ρ).bind fun d ρ =>
    if (ρ.getD j .un).isOwn = true then match m (flOf j ja fb ρ) ((ρ.getD j .un).flag true) [d] with
      | .ok r sv => .ok r (ρ.set j (sv.flag (ρ.getD j .un).isIo))
      | _ => .stuck
    else .stuck
  else .stuck
theorem AE.lamB {X : Cx} {W : WX} {nm a ab y q : Str} {g fX : Addr} {k kb kk jm ja : Nat} {pg params : Arguments} {bg : List Stmt} {sg scope : Scope} {fdg : FuncData} {Ng ps : List Str} {body e2 : Expr} {gm : (SV → D → IR) → M Fl} {fb fe : M D} {p py lpos pos : Pos}
    (Fg : FunD X.K nm nm pg bg sg [] [] g fdg) (Bk : BendOk X.prog X.w X.K X.mg X.base k g nm Ng sg bg ab gm) (Sg : FnScope Ng ps sg) (hps : ps.length = 3) (h0 : Ng[2]? = some ab) (va : Vis sg ab) (bdg : Binds X.K fdg ps []) (hg : Gl X nm) (hm : X.mg nm = some (.ref g))
    (LF : LamF X.K X.mg fX q) (hcd : X.env.code = codV X.K fX) (hq : q = X.env.qual ++ "<lambda>") (hr : RoomG (kk + 2) X.A) (hk1 : kb ≤ kk) (hk2 : k ≤ kk + 1) (L : LamS1 X.env.scope scope a) (hnd : X.N.Nodup) (hja : X.N[ja]? = some a) (ne : jm ≠ ja) (hdef : defaultsOf params X.env = ([], []))
    (hbind : ∀ (q : Str) (cl : List (Str × Addr)) (pm cv ctv u : Value), bindArgs (PySem.W.kla_fn "<lambda>" q params body scope cl pm cv ctv) ⟨[u], []⟩ = pure [(a, u)])
    (hb : ∀ (A : Around) (outer : List Env) (s : Shared) (H : Hp) (E : XK) (f c : Addr), RoomG kb (A.deeper (lamEnv X scope s.heap.objs.size f c)) → AE (lamCxN X A outer s H E scope f c) (fun y d _ H => E y d H) body fb)
    (hy : PE X (.Name y py) (tVar jm)) (he2 : AE X W e2 fe)
    (hargs : starEach [.Name y py, e2, .Lambda params body scope lpos] X.env = [(false, eval (.Name y py) X.env), (false, eval e2 X.env), (false, eval (.Lambda params body scope lpos) X.env)] := by rfl) (hrest : starEach [e2, .Lambda params body scope lpos] X.env = [(false, eval e2 X.env), (false, eval (.Lambda params body scope lpos) X.env)] := by rfl)
    (hdb : (nm == ("__debug__" : Str)) = false := by decide) (nd : (ab == ("__debug__" : Str)) = false := by decide) (nc : (ab == ("__classdict__" : Str)) = false := by decide) (hP : P0.pv = [] := by rfl) :
    AE X W (.Call (.Name nm p) [.Name y py, e2, .Lambda params body scope lpos] [] pos) (mLamB (fun fl => runB Ng.length (gm fl)) jm ja fe fb) := by
  subst hq
  obtain ⟨te, pe2, qe⟩ := he2
  refine ⟨fun σ H Q => ∃ G F ρ, Stt X.K G σ H F ρ ∧ Good X.K G W σ F (mLamB (fun fl => runB Ng.length (gm fl)) jm ja fe fb ρ) (PD X.K Q), ⟨fun pins s σ H Q I h => ?_⟩, fun G σ H F ρ Q S hg => ⟨G, F, ρ, S, hg⟩⟩
  obtain ⟨G, F, ρ, S, hgood⟩ := h
  unfold mLamB at hgood
  split at hgood
  case isFalse => exact hgood.elim
  rename_i hown
  obtain ⟨a0, o0, e0, _, _, _⟩ := (S.at_ jm).there hown
  obtain ⟨c0, P, k1, k2, k3, k4, k5, k6⟩ := LF.ex
  obtain ⟨oc, od, dV, kV, doc, pm, an, cdv, ct, osl, rfl, at_g, code_g, _, _⟩ := Fg.ex
  have TB : LamX.TabB X.base X.mg c0 P := ⟨PySem.W.codeHd_of_K I.ok.mod.kin k2, k6 _ I.ok.mod.kin, k5⟩
  refine wpAny_Call_Name_kw (ld_glob I hg hm ?_ hdb)
  refine PySem.W.callWith_K (h₀ := X.base) I.ok.mod.kin Fg.kp ?_ (by rw [hargs, hrest]) (by rw [hrest]; rfl)
  rw [hargs]
  show wpAny _ _ (spliced [(false, eval (.Name y py) X.env), (false, eval e2 X.env), (false, eval (.Lambda params body scope lpos) X.env)]) _ _ s
  refine Calls.spliced_cons (thn (hy.run pins s σ H (fun v H2 => v = .ref a0 ∧ H2 = H) I ⟨.ref a0, e0, rfl, rfl⟩) fun u s0 hv => ?_)
  obtain ⟨v0, H0, I0, rv0, ev, eH⟩ := hv
  subst ev eH
  obtain rfl : u = Value.ref a0 := rv0
  refine Calls.spliced_cons (thn (pe2.run pins s0 σ H0 (fun v H3 => ∃ F3 ρ3 d, Stt X.K G σ H3 F3 ρ3 ∧ Rep X.K F3 v d ∧ Good X.K G W σ F3 (if (ρ3.getD jm .un).isOwn = true then match runB Ng.length (gm (flOf jm ja fb ρ3)) ((ρ3.getD jm .un).flag true) [d] with
      | .ok r sv => R.ok r (ρ3.set jm (sv.flag (ρ3.getD jm .un).isIo))
      | _ => .stuck
    else .stuck) (PD X.K Q)) I0 (qe G σ H0 F ρ _ S (hgood.bind fun d ρ3 H3 F3 S3 s3 g3 v rv => ⟨F3, ρ3, d, S3, rv, g3⟩))) fun u2 s2 hh => ?_)
  obtain ⟨v2, H2, I2, rv2, F2, ρ2, d2, S2, rd2, hgood⟩ := hh
  split at hgood
  case isFalse => exact hgood.elim
  rename_i hown2
  refine Calls.spliced_cons (lam_make2 I2 TB (hcd.trans k1) k3 k4 S2.tb hdef (L.has I2.ok) fun f c pm2 ctv H1 s1 I1 eN T1 of1 nf ff co => Calls.spliced_nil ⟨I1.kIn, ?_⟩)
  have nt : ∀ {o : HO}, isTb o = false → ∀ ps, o ≠ .tbl ps := fun {o} n ps e => by subst e; cases n
  have sub1 : Sm F2 H1 := fun b o e => eN b o (S2.sub b o e) (nt (S2.ft b o e))
  have S1 : Stt X.K G σ H1 F2 ρ2 := S2.grow ⟨fun b o e n => eN b o e (nt n), fun _ => T1⟩ sub1 Sm.refl (fun _ _ e => .inl e) S2.ft
  let F4 : Hp := fun b => if b = c then some (CodeO c (X.env.qual ++ "<lambda>")) else F2 b
  have F4c : F4 c = some (CodeO c (X.env.qual ++ "<lambda>")) := if_pos rfl
  have xc : isX (CodeO c (X.env.qual ++ "<lambda>")) = true ∧ isTb (CodeO c (X.env.qual ++ "<lambda>")) = false := ⟨isX_code, by unfold CodeO; rfl⟩
  have s4 : Sm F2 F4 := fun b o e => by
    show (if b = c then _ else F2 b) = _
    split
    · rename_i z
      subst z
      rw [← co, sub1 b o e]
    · exact e
  have p4 : Pre X.K F4 H1 := ⟨fun b o e => by
      by_cases z : b = c
      · subst z; rw [F4c] at e; cases e; exact co
      · exact sub1 b o ((if_neg z).symm.trans e), fun b o e => by
      by_cases z : b = c
      · subst z; rw [F4c] at e; cases e; exact xc.2
      · exact S2.ft b o ((if_neg z).symm.trans e), T1⟩
  have room : RoomG (kk + 1) (X.A.deeper (envOfC nm sg s1.heap.objs.size g cdv)) := hr.deeper _
  have new4 : ∀ b o, F4 b = some o → F2 b = some o ∨ Nn H1 b := fun b o e => by
    by_cases z : b = c
    · subst z
      exact .inr fun u hu => by rw [co] at hu; cases hu; exact xc.1
    · exact .inl ((if_neg z).symm.trans e)
  have S4 : Stt X.K G σ H1 F4 ρ2 := S1.grow Sm.refl.t p4.sub s4 new4 p4.ft
  have q4 : SlotOk X.K H1 F4 (some (some (V.ref a0))) (ρ2.getD jm .un) := by
    have q := S4.at_ jm
    rw [e0] at q; exact q
  have l3 : 2 < Ng.length := (List.getElem?_eq_some_iff.mp h0).1
  have run : codeAny (model X.prog X.w) X.A (.call (.ref g) ⟨[.ref a0, u2, .ref f], []⟩) (CR (L2N.CX X.prog X.w) X.stack X.prog X.w H1 s1 Q E0F) s1 := by
    refine run_ofS (N := Ng) (ps := ps) (us := [.ref a0, u2, .ref f]) (vs := [.ref a0, v2, .ref f]) at_g code_g Sg hr.r I1.env0 (bdg s1 [.ref a0, u2, .ref f] I1.kIn (by rw [hps]; rfl)) (.cons rfl (.cons rv2 (.cons rfl .nil))) (by rw [hps]; rfl) fun _ => ?_
    obtain ⟨tb, pb, qb⟩ := Bk cdv X.A X.stack s1 H1 F4 f a0 (flOf jm ja fb ρ2) (room.mono hk2) fun e fe p1 p2 tk2 hae hse =>
      lam_run1 (k := kb) (pn := (cxT X Ng nm sg g cdv s1 H1).pn) (xe := (cxT X Ng nm sg g cdv s1 H1).xe) I1 S4 L hnd hja ne e0 rfl of1 nf ff (hbind _ _ _ _ _) (room.mono (Nat.succ_le_succ hk1)) (fun A outer s H E rm => hb A outer s H E f c rm) tk2 h0 va F4c hP hae hse nd nc
    refine ⟨tb, pb, qb ⟨H1, F4, [(0, a0)], []⟩ _ H1 F4 _ _ (stt_bend p4 l3 (q4.flag true) (flag_io hown2).1 (rd2.mono s4)) ?_⟩
    have back : ∀ {σ' : L2.St} {H' F' : Hp} {ρ' : Ro}, @Stt _ (pinB f a0 2 0 F4) X.K ⟨H1, F4, [(0, a0)], []⟩ σ' H' F' ρ' → Stt X.K G σ H' F' (ρ2.set jm ((ρ'.getD 0 .un).flag (ρ2.getD jm .un).isIo)) ∧ Sm F2 F' := fun {σ' H' F' ρ'} S' => by
      have A := @aft_io _ (pinB f a0 2 0 F4) _ _ _ _ _ _ _ _ _ S'
      refine ⟨S4.change hown2 e0 A.h A.sub A.f A.new (A.ft p4.ft) (A.at_.flag _) (flag_io (SV.own_of_io A.own)).2 ((flag_io (SV.own_of_io A.own)).1.trans (own_io_hd hown2)), s4.tr A.f⟩
    unfold runB at hgood
    have er : ((ρ2.getD jm .un).flag true) :: ([d2].map SV.val ++ SV.pin :: List.replicate (Ng.length - ([d2].length + 2)) SV.un) = ((ρ2.getD jm .un).flag true) :: .val d2 :: .pin :: List.replicate (Ng.length - 3) SV.un := rfl
    rw [show ((ρ2.getD jm .un).flag true) :: [d2].map SV.val ++ SV.pin :: List.replicate (Ng.length - ([d2].length + 2)) SV.un = ((ρ2.getD jm .un).flag true) :: .val d2 :: .pin :: List.replicate (Ng.length - 3) SV.un from rfl] at hgood
    cases eg : gm (flOf jm ja fb ρ2) (((ρ2.getD jm .un).flag true) :: .val d2 :: .pin :: List.replicate (Ng.length - 3) .un) with
    | ok fl ρ3 =>
      rw [eg] at hgood
      cases fl with
      | nx => exact fun σ' H' F' S' s' => let ⟨b1, b2⟩ := back S'; hgood H' F' b1 b2 .non .non
      | rt d => exact fun v σ' H' F' S' s' rv => let ⟨b1, b2⟩ := back S'; hgood H' F' b1 b2 v rv
      | rn ds => exact hgood.elim
      | bk => exact hgood.elim
      | ct => exact hgood.elim
    | exc x ρ3 => rw [eg] at hgood; exact hgood.elim
    | stuck => rw [eg] at hgood; exact hgood.elim
  refine wpAny_call (codeAny_mono run fun r s2 hq => ?_)
  cases r with
  | error e =>
    obtain ⟨_, _, _, _, _, _, _, _, _, _, _, _, z⟩ := hq
    exact z.elim
  | ok fl =>
    cases fl with
    | ret u => exact I1.after hq
    | _ => exact False.elim hq
end
section
variable [Lam] [Pins]
end
end Mr
namespace GFst
open PySem PySem.Spec PyProof.Rows L2 LamX GNext
section
variable {X : Cx} {σ : L2.St} {H1 : Hp}
end
end GFst
namespace Mr
open PySem PySem.Spec PyProof.Rows L2 LamX
section
variable [Lam] [P0 : Pins]
end
end Mr
namespace GPr
open PySem PySem.Spec PyProof.Rows L2 LamX GNext
section
variable {X : Cx} {pins : List (Addr × Obj)} {σ : L2.St} {H : Hp} {s : Shared}
end
end GPr
namespace GPr
open PySem PySem.Spec PyProof.Rows L2 LamX GNext
section
variable {X : Cx}
end
end GPr
namespace Mr
open PySem PySem.Spec PyProof.Rows L2 LamX
section
variable [Lam] [P0 : Pins]
end
end Mr
namespace Mr
open PySem PySem.Spec PyProof.Rows L2
section
variable [Lam] [P0 : Pins]
@[reducible] def pinF (j : Nat) (d : Addr) (F1 : Hp) : Pins := ⟨(j, .ref d) :: P0.pv, F1⟩
variable {K : PySem.W.Frag} {G : Ent} {σ : St} {H F H' F' : Hp} {ρ ρ' : Ro} {j : Nat} {d : Addr} {od : Obj} {ks : List Key} {vs : List V} {ds : List D}
end
section
variable [Lam] [P0 : Pins] {X : Cx} {W : WX}
/-- what is known of the locked dict -/
structure Lk (K : PySem.W.Frag) (j : Nat) (d : Addr) (od : Obj) (ks : List Key) (vs : List V) (ds : List D) (F1 : Hp) : Prop where
  at_ : F1 d = some (.frz od (.dK (ks.zip vs)))
  len : ks.length = vs.length
  reps : Reps K F1 vs ds
def itemsP (ks : List Key) (ds : List D) : List D := (ks.zip ds).map fun p => pairD (keyV p.1) p.2
theorem items_atP {K : PySem.W.Frag} {F : Hp} {ks : List Key} {vs : List V} {ds : List D} (l : ks.length = vs.length) (r : Reps K F vs ds) {i : Nat} {x : D} (h : (itemsP ks ds)[i]? = some x) :
    ∃ k v d, (ks.zip vs)[i]? = some (k, v) ∧ Rep K F v d ∧ x = pairD (keyV k) d := by
  unfold itemsP at h
  rw [List.getElem?_map] at h
  obtain ⟨⟨k, d⟩, e, rfl⟩ := Option.map_eq_some_iff.mp h
  obtain ⟨e1, e2⟩ := List.getElem?_zip_eq_some.mp e
  obtain ⟨v, f1, f2⟩ := r.get i e2
  exact ⟨k, v, d, List.getElem?_zip_eq_some.mpr ⟨e1, f1⟩, f2, rfl⟩
theorem key_rep {K : PySem.W.Frag} {F : Hp} : ∀ (k : Key), Rep K F (kV k) (keyV k)
  | .inl i => .int i
  | .inr x => .str x
theorem AI.items {j : Nat} {d : Addr} {od : Obj} {ks : List Key} {vs : List V} {ds : List D} {F1 : Hp} {elts : List Expr} {kk : Nat} {tpos py ap cp : Pos} {y : Str} (L : Lk X.K j d od ks vs ds F1) (h0 : PE X (.Name y py) (tVar j))
    (hbase : attributeBase (.Name y py) "items" X.env (eval (.Name y py) X.env) = eval (.Name y py) X.env := by rfl) (hline : (ap.endLine == cp.line) = true := by rfl) :
    @AI _ (pinF j d F1) X W (.Tuple elts kk tpos) (.Call (.Attribute (.Name y py) "items" ap) [] [] cp) (fun ρ => .ok (itemsP ks ds) ρ) := by
  letI P1 : Pins := pinF j d F1
  refine ⟨_, pi_items h0 hbase hline, fun G σ H F ρ R S hgd => ?_⟩
  obtain ⟨x1, _⟩ := S.pin j (.ref d) (List.mem_cons_self ..)
  have pf : Sm F1 F := S.pf
  have fd := pf _ _ L.at_
  refine ⟨_, x1, d, od, _, rfl, S.sub _ _ fd, hgd H F S Sm.refl _ fun i H' F' s1 s2 => ?_⟩
  have hd := s2 _ _ (s1 _ _ fd)
  have rl := L.reps.length
  refine ⟨fun e => ⟨hd, ?_⟩, fun x hx => ?_⟩
  · unfold itemsP at e
    rw [List.length_map, List.length_zip] at e
    have := L.len
    rw [List.length_zip]; omega
  · obtain ⟨k, v, e, e1, e2, rfl⟩ := items_atP L.len (L.reps.mono (pf.tr s1)) hx
    refine ⟨⟨hd, (List.getElem?_eq_some_iff.mp e1).1⟩, fun x H'' ⟨T, k', v', z1, z2, z3, z4⟩ => ?_⟩
    rw [e1] at z1; cases z1
    subst z2 z4
    exact ⟨upd F' T (.tup [kV k, v]), .tup s2 z3, pair_rep2 (.of upd_same) (key_rep k) (e2.mono (Sm.updN (s2.none z3)))⟩
theorem AI.values {j : Nat} {d : Addr} {od : Obj} {ks : List Key} {vs : List V} {ds : List D} {F1 : Hp} {tg : Expr} {py ap cp : Pos} {y : Str} (L : Lk X.K j d od ks vs ds F1) (h0 : PE X (.Name y py) (tVar j))
    (hbase : attributeBase (.Name y py) "values" X.env (eval (.Name y py) X.env) = eval (.Name y py) X.env := by rfl) (hline : (ap.endLine == cp.line) = true := by rfl) :
    @AI _ (pinF j d F1) X W tg (.Call (.Attribute (.Name y py) "values" ap) [] [] cp) (fun ρ => .ok ds ρ) := by
  letI P1 : Pins := pinF j d F1
  refine ⟨_, pi_values h0 hbase hline, fun G σ H F ρ R S hgd => ?_⟩
  obtain ⟨x1, _⟩ := S.pin j (.ref d) (List.mem_cons_self ..)
  have pf : Sm F1 F := S.pf
  have fd := pf _ _ L.at_
  refine ⟨_, x1, d, od, _, rfl, S.sub _ _ fd, hgd H F S Sm.refl _ fun i H' F' s1 s2 => ?_⟩
  have hd := s2 _ _ (s1 _ _ fd)
  have rl := L.reps.length
  have ll := L.len
  refine ⟨fun e => ⟨hd, by rw [List.length_zip]; omega⟩, fun x hx => ?_⟩
  obtain ⟨v, f1, f2⟩ := (L.reps.mono (pf.tr s1)).get i hx
  have hi : i < ds.length := (List.getElem?_eq_some_iff.mp hx).1
  refine ⟨⟨hd, by rw [List.length_zip]; omega⟩, fun x H'' ⟨z1, k, z2⟩ => ?_⟩
  have := (List.getElem?_zip_eq_some.mp z2).2
  rw [f1] at this; cases this
  subst z1
  exact ⟨F', .refl s2, f2⟩
end
end Mr
namespace Mr
open PySem PySem.Spec PyProof.Rows L2
variable [Lam] [Pins]
section
variable {X : Cx} {W : WX} {K : PySem.W.Frag} {G : Ent} {σ : St} {H F H' F' : Hp} {ρ ρ' : Ro} {e : Expr} {f : M D} {j : Nat} {ks : List Key} {xs : List D} {a : Addr} {vs : List V}
end

section
variable {X : Cx} {W : WX} {ke ve tg iter c : Expr} {ifs : List Expr} {scope : Scope} {own : List (Str × Nat)} {pos : Pos} {it : M (List D)} {t : Tg} {tc : M Bool} {kx vx : M D}
end
end Mr
namespace RevT
open PySem PySem.Spec PyProof.Rows L2 HT
section
variable {X : Cx}
end
end RevT
namespace Mr
open PySem PySem.Spec PyProof.Rows L2
section
variable [Lam] [P0 : Pins]
end
end Mr
namespace Nst
open PySem PySem.Spec PyProof.Rows L2 Mr
section
variable {X : Cx} {pins : List (Addr × Obj)} {σ : L2.St} {H : Hp} {s : Shared}
end
section
variable {X : Cx} {pins : List (Addr × Obj)} {σ : L2.St} {H : Hp} {s : Shared} {K : PySem.W.Frag}
end
end Nst
namespace Nst
open PySem PySem.Spec PyProof.Rows L2 Mr
section
variable {X : Cx}
section
variable {pins : List (Addr × Obj)} {σ : L2.St} {H : Hp} {s : Shared} {D : Addr} {y z : V} {u r : Value} {E : Value → Shared → Prop} {Nx : Hp → Prop}
end
end
end Nst
namespace Mr
open PySem PySem.Spec PyProof.Rows L2
variable [Lam] [Pins]
section
variable {X : Cx} {W : WX} {ke ve tg iter c e b : Expr} {ifs : List Expr} {scope : Scope} {own : List (Str × Nat)} {pos py : Pos} {it : M (List D)} {t : Tg} {tc : M Bool} {kx vx fb : M D} {x y : Str}
end
end Mr
namespace Mr
open PySem PySem.Spec PyProof.Rows L2
variable [Lam] [Pins]
section
variable {X : Cx} {W : WX} {e : Expr}
/-- a dict of one's own is seen as a value from here on -/
def mFrzD {α : Type} (j : Nat) (f : M α) : M α := fun ρ => match ρ.getD j .un with
  | .dic false ks xs => f (ρ.set j (.val (.dct ks xs)))
  | _ => .stuck
theorem AND.frz {j : Nat} {f : M (List Key × List D)} (h : AND X W e f) : AND X W e (mFrzD j f) := by
  obtain ⟨t, p, q⟩ := h
  refine ⟨t, p, fun G σ H F ρ Q S hg => ?_⟩
  unfold mFrzD at hg
  split at hg
  · rename_i ks xs hi
    obtain ⟨a, F', e1, S', sF, _⟩ := S.freezeD hi
    exact q G σ H F' _ Q S' (Good.mono sF hg)
  · exact hg.elim
end
end Mr
namespace Mr
open PySem PySem.Spec PyProof.Rows L2
section
variable [Lam] [P0 : Pins] {X : Cx} {W : WX}
/-- what the reading picks -/
structure Pk (K : PySem.W.Frag) (j : Nat) where
  d : Addr
  od : Obj
  ks : List Key
  vs : List V
  ds : List D
  F1 : Hp
  L : Lk K j d od ks vs ds F1
section
variable {ke ve tg : Expr} {ifs : List Expr} {scope : Scope} {own : List (Str × Nat)} {elts : List Expr} {kk : Nat} {tpos pos spos pyy py ap cp : Pos} {y yy : Str} {t : Tg} {tc : M Bool} {kx vx : M D} {i j : Nat}
end
end
section
variable [Lam] [Pins] {X : Cx} {W : WX}
end
end Mr
namespace Mr
open PySem PySem.Spec PyProof.Rows L2
open Classical in
noncomputable def mPeekT (j : Nat) (f : M Bool) : M Bool := fun ρ => match ρ.getD j .un with
  | .own false xs => match f (ρ.set j (.val (.lst xs))) with
    | .ok d ρ' => if ρ'.getD j .un = .val (.lst xs) ∧ pkR j 0 ρ ρ' then .ok d (ρ'.set j (.own false xs)) else .stuck
    | _ => .stuck
  | _ => f ρ
section
variable [Lam] [P0 : Pins]
variable {X : Cx} {W : WX} {e : Expr} {f : M Bool}
open Classical in
theorem AT.peek (j : Nat) (h : AT X W e f) : AT X W e (mPeekT j f) := by
  obtain ⟨t, p, q⟩ := h
  refine ⟨t, p, fun G σ H F ρ Q S hg => ?_⟩
  unfold mPeekT at hg
  split at hg
  · rename_i xs hi
    obtain ⟨a, vs, e1, ha, fa, r, S1, sF, _⟩ := S.freezeX hi
    refine q G σ H _ _ Q S1 ?_
    cases ef : f (ρ.set j (.val (.lst xs))) with
    | ok d ρ' =>
      rw [ef] at hg
      have hg : Good X.K G W σ F (if ρ'.getD j .un = .val (.lst xs) ∧ pkR j 0 ρ ρ' then R.ok d (ρ'.set j (.own false xs)) else .stuck) (PB Q) := hg
      split at hg
      · rename_i hz
        intro H' F' S' s'
        obtain ⟨S2, s2⟩ := S.unfreeze hi e1 ha fa r s' S' hz.1 hz.2
        exact hg H' _ S2 s2
      · exact hg.elim
    | exc x ρ' => rw [ef] at hg; exact hg.elim
    | stuck => rw [ef] at hg; exact hg.elim
  · exact q G σ H F ρ Q S hg
end
end Mr
namespace Mr
open PySem PySem.Spec PyProof.Rows L2
section
variable [Lam] [Pins] {X : Cx} {W : WX}
end
section
variable [Lam] [Pins] {X : Cx} {W : WX}
end
section
variable [Lam] [Pins] {X : Cx} {W : WX}
end
end Mr
namespace Nst
open PySem PySem.Spec PyProof.Rows L2 Mr
open Classical in
noncomputable def putX (xs : List (NestedKey × Addr)) (p : NestedKey × Addr) : List (NestedKey × Addr) := if p.1 ∈ xs.map (·.1) then xs else xs ++ [p]
/-- the pairs of a list: the pair's place, the key's place, the key -/
structure PrL (K : PySem.W.Frag) (H : Hp) (x : Addr × Addr × D × NestedKey) : Prop where
  sq : SqT K H x.1 [.ref x.2.1, .bl true]
  rp : Rep K H (.ref x.2.1) x.2.2.1
  nk : nkD x.2.2.1 = some x.2.2.2
section
variable {X : Cx}
end
end Nst
namespace Mr
open PySem PySem.Spec PyProof.Rows L2
variable [Lam] [Pins]
section
variable {X : Cx} {W : WX} {e : Expr} {fe : M D} {p pos : Pos}
end
end Mr
namespace Mr
open PySem PySem.Spec PyProof.Rows L2 LamX
section
variable {prog : Program} {w : World} {A : Around} {E : Value → Shared → Prop}
end
section
variable [Lam] [P0 : Pins]
variable {X : Cx} {W : WX}
end
end Mr
namespace Mr
open PySem PySem.Spec PyProof.Rows L2
variable [Lam] [Pins]
section
variable {X : Cx} {W : WX} {elt tg iter tg1 iter1 : Expr} {ifs ifs1 : List Expr} {scope : Scope} {own : List (Str × Nat)} {pos : Pos} {it it1 : M (List D)} {t t1 : Tg} {tc tc1 : M Bool} {el : M D} {vs1 : List Nat}
end
end Mr
namespace Mr
open PySem PySem.Spec PyProof.Rows L2
section
variable {X : Cx} {e : Expr} {te : TE} {p apos cpos pos : Pos}
end
section
variable [Lam] [P0 : Pins] {X : Cx} {W : WX}
/-- list(e), e a dict -/
def listDD : D → FR D
  | .dct ks _ => .ok (.lst (ks.map keyV))
  | _ => .stuck
theorem AE.listD {e : Expr} {fe : M D} {p pos : Pos} (hc : X.calm = true) (he : AE X W e fe) (hg : Gl X "list") (hm : X.mg "list" = none)
    (hs : starEach [e] X.env = (false, eval e X.env) :: starEach [] X.env := by rfl) (hpl : (backTo pos (starEach [] X.env)).any (·.1) = false := by rfl) :
    AE X W (.Call (.Name "list" p) [e] [] pos) (m1 listDD fe) := by
  obtain ⟨t, pe, qe⟩ := he
  refine ⟨_, pe_callTy (call_listD hc) hg hm (by decide +kernel) (pa_cons pe pa_nil hs) (by decide) (by decide) hs hpl, fun G σ H F ρ Q S hgd => qe G σ H F ρ _ S (hgd.bind fun d ρ1 H1 F1 S1 s1 g1 v r1 => ?_)⟩
  cases r1 with
  | dct h1 l h3 => exact ⟨_, _, rfl, .inl (S1.sub _ _ h1), fun q nq => newLst S1 (keys_reps l) g1 nq⟩
  | _ => exact g1.elim
end
end Mr
namespace Mr
open PySem PySem.Spec PyProof.Rows L2
section
variable [Lam] [P0 : Pins]
/-- slot j's own list waits -/
@[reducible] def pinO (j : Nat) (a : Addr) (F1 : Hp) : Pins := ⟨(j, .ref a) :: P0.pv, F1⟩
@[reducible] def entO (G : Ent) (a : Addr) (vs : List V) : Ent := ⟨G.H0, G.F0, G.io, (a, .lst vs) :: G.xt⟩
variable {K : PySem.W.Frag} {G : Ent} {σ σ2 : St} {H F H2 F2 : Hp} {ρ ρ2 : Ro} {j : Nat} {xs : List D}
theorem Stt.wait (S : Stt K G σ H F ρ) (hj : ρ.getD j .un = .own false xs) : ∃ a vs, Reps K F vs xs ∧ @Stt _ (pinO j a F) K (entO G a vs) σ H F (ρ.set j .pin) := by
  have q := S.at_ j
  rw [hj] at q
  obtain ⟨a, vs, e1, ha, fa, rs⟩ := q
  have oj : (ρ.getD j .un).isOwn = true := by rw [hj]; rfl
  have jl : j < ρ.length := by rw [S.len]; exact (List.getElem?_eq_some_iff.mp e1).1
  have own : ∀ i, ((ρ.set j .pin).getD i .un).isOwn = true → i ≠ j ∧ (ρ.getD i .un).isOwn = true := fun i h => by
    rw [getD_set] at h
    split at h
    · cases h
    · rename_i c; exact ⟨fun e => c ⟨e.symm, e ▸ jl⟩, h⟩
  have nio : (j, a) ∉ G.io := fun m => by have := (S.io j a m).2; rw [hj] at this; cases this
  refine ⟨a, vs, rs, @Stt.mk _ (pinO j a F) _ _ _ _ _ _ S.sub S.ft S.tb S.same S.ext S.new (by rw [List.length_set]; exact S.len) (fun i => ?_) (fun i k b h1 h2 => S.dis i k b (own i h1).2 (own k h2).2) (fun i b h1 => S.fresh i b (own i h1).2) (fun i b m => ?_) (fun p hp => ?_) (fun p hp => ?_) ?_ (fun i v m => ?_) Sm.refl⟩
  · rw [getD_set]; split
    · trivial
    · exact S.at_ i
  · obtain ⟨f1, f2⟩ := S.io i b m
    refine ⟨f1, ?_⟩
    have ne : i ≠ j := fun e => by rw [e, hj] at f2; cases f2
    rw [getD_set, if_neg fun c => ne c.1.symm]; exact f2
  · rcases List.mem_cons.mp hp with rfl | hp
    · exact ⟨ha, fa, (S.fresh j a oj e1).elim id fun z => absurd z nio, fun i h e => (own i h).1 (S.dis i j a (own i h).2 oj e e1)⟩
    · obtain ⟨f1, f2, f3, f4⟩ := S.xt p hp
      exact ⟨f1, f2, f3, fun i h => f4 i (own i h).2⟩
  · rcases List.mem_cons.mp hp with rfl | hp
    · rfl
    · exact S.xx p hp
  · show ((a :: G.xt.map (·.1))).Nodup
    refine List.nodup_cons.mpr ⟨fun m => ?_, S.xtd⟩
    obtain ⟨p, hp, ep⟩ := List.mem_map.mp m
    exact (S.xt p hp).2.2.2 j oj (by rw [ep]; exact e1)
  · rcases List.mem_cons.mp m with e | m
    · cases e; exact ⟨e1, by rw [getD_set, if_pos ⟨rfl, jl⟩]; rfl⟩
    · obtain ⟨f1, f2⟩ := S.pin i v m
      refine ⟨f1, ?_⟩
      have ne : i ≠ j := fun e => by rw [e, hj] at f2; cases f2
      rw [getD_set, if_neg fun c => ne c.1.symm]; exact f2
end
section
variable [Lam] [P0 : Pins] {X : Cx} {W : WX}
end
end Mr
namespace Pm
open PySem PySem.Spec PyProof.Rows L2 Mr
noncomputable def b__law_bowl : M Fl :=
  (xSeq (xPut (.sl 2) (mIf (tOf (m2 ltD (mVar 1) (mL lenD (mCons (mVar 0) mNil)))) (m2 ixD (mVar 0) (mVar 1)) (m2 addD (m2 mulD (mC (.int 61)) (mVar 1)) (mC (.int 31)))))
  (xSeq (xPut (.sl 3) (m2 modD (mL intD (mCons (mL absD (mCons (mVar 2) mNil)) mNil)) (m2 powD (m2 powD (mC (.int 10)) (mC (.int 61))) (mC (.int 11)))))
  (xSeq (xPut (.sl 4) (m2 addD (m2 addD (m2 addD (m2 mulD (m2 modD (mL intD (mCons (mVar 3) mNil)) (mC (.int 2147483269))) (mC (.int 95273))) (m2 mulD (mC (.int 9403)) (mVar 1))) (m2 mulD (mC (.int 43)) (mL intD (mCons (m2 ltD (mVar 2) (mC (.int 0))) mNil)))) (mC (.int 71))))
  (xRetN (mLstN (mCons (mL max2D (mCons (mC (.int 0)) (mCons (m2 subD (mVar 3) (m2 powD (mC (.int 10)) (mC (.int 18)))) mNil))) (mCons (m2 modD (mL intD (mCons (mVar 4) mNil)) (mC (.int 2305843009213693907))) (mCons (mC (.int 0)) mNil))))))))
noncomputable def m__law_bowl : List D → FR (List D) := runN 5 b__law_bowl
noncomputable def b_is_integer : M Fl :=
  (xRet (mAnd (mL isiD (mCons (mVar 0) (mCons (mC (.opq (.ty "int"))) mNil))) (mAnd (m1 notD (mL isiD (mCons (mVar 0) (mCons (mC (.opq (.ty "bool"))) mNil)))) (mChain leD leD (m1 negD (mC (.int c_GREATEST))) (mVar 0) (mC (.int c_GREATEST))))))
noncomputable def m_is_integer : List D → FR D := runF 1 b_is_integer
noncomputable def e1_is_row : M D :=
  (mCall m_is_integer 1 [] (mCons (mVar 1) mNil))
noncomputable def q1_is_row : M (List D) :=
  mLc (mWalk (mVar 0)) [1] (.sl 1) tYesM e1_is_row
noncomputable def b_is_row : M Fl :=
  (xSeq (xIf (tOr (tNot (tOf (mL isiD (mCons (mVar 0) (mCons (mC (.opq (.ty "tuple"))) mNil))))) (tNot (tOf (mChain leD leD (mC (.int 1)) (mL lenD (mCons (mVar 0) mNil)) (mC (.int c_WIDEST)))))) (xRet (mC (.bl false))) xNx)
  (xRet (mL allD (mCons (mOfN q1_is_row) mNil))))
noncomputable def m_is_row : List D → FR D := runF 2 b_is_row
noncomputable def b__law_bit : M Fl :=
  (xSeq (xIf (tOf (m2 gtD (mIxN 0 (mC (.int 0))) (mC (.int 0)))) (xSeq (xPut (.sl 4) (m2 modD (mL intD (mCons (mIxN 0 (mC (.int 0))) mNil)) (mVar 1)))
  (xSeq (xSetIx 0 (m2 divD (mIxN 0 (mC (.int 0))) (mVar 1)) (mC (.int 0)))
  (xRet (mVar 4)))) xNx)
  (xSeq (xSetIx 0 (m2 addD (mIxN 0 (mC (.int 2))) (mC (.int 1))) (mC (.int 2)))
  (xSeq (xPut (.sl 2) (m2 modD (mL intD (mCons (m2 addD (mIxN 0 (mC (.int 1))) (m2 mulD (mC (.int 1000427)) (mIxN 0 (mC (.int 2))))) mNil)) (mC (.int 2305843009213693951))))
  (xSeq (xPut (.sl 3) (m2 addD (m2 mulD (m2 modD (mL intD (mCons (m2 mulD (mVar 2) (mVar 2)) mNil)) (mC (.int 2305843009213693921))) (mVar 2)) (m2 mulD (mC (.int 9091)) (mIxN 0 (mC (.int 2))))))
  (xRet (m2 modD (mL intD (mCons (m2 divD (m2 modD (mL intD (mCons (mVar 3) mNil)) (mC (.int 2305843009213693907))) (mC (.int 16384))) mNil)) (mVar 1)))))))
noncomputable def m__law_bit : SV → List D → IR := runI 5 b__law_bit
noncomputable def e1_is_row_within : M D :=
  (mChain leD leD (m1 negD (mVar 2)) (mVar 3) (mVar 2))
noncomputable def q1_is_row_within : M (List D) :=
  mLc (mWalk (mVar 0)) [3] (.sl 3) tYesM e1_is_row_within
noncomputable def b_is_row_within : M Fl :=
  (xRet (mAnd (mCall m_is_row 1 [] (mCons (mVar 0) mNil)) (mAnd (m2 eqD (mL lenD (mCons (mVar 0) mNil)) (mVar 1)) (mL allD (mCons (mOfN q1_is_row_within) mNil)))))
noncomputable def m_is_row_within : List D → FR D := runF 4 b_is_row_within
noncomputable def e1_is_strand_of : M D :=
  (mCall m_is_row_within 3 [] (mCons (mVar 4) (mCons (mVar 1) (mCons (mC (.int c_MAX_SIZE)) mNil))))
noncomputable def q1_is_strand_of : M (List D) :=
  mLc (mWalk (mVar 3)) [4] (.sl 4) tYesM e1_is_strand_of
noncomputable def b_is_strand_of : M Fl :=
  (xSeq (xIf (tOr (tNot (tOf (mL isiD (mCons (mVar 0) (mCons (mC (.opq (.ty "tuple"))) mNil))))) (tOr (tOf (m2 neD (mL lenD (mCons (mVar 0) mNil)) (mC (.int 2)))) (tNot (tOf (mL isiD (mCons (m2 ixD (mVar 0) (mC (.int 0))) (mCons (mC (.opq (.ty "str"))) mNil))))))) (xRet (mC (.bl false))) xNx)
  (xSeq (xPut (.tp [(.sl 2), (.sl 3)]) (mVar 0))
  (xSeq (xIf (tOr (tOf (m2 ninD (mVar 2) (mL tupD (mCons (mC (.str c_MORE)) (mCons (mC (.str c_LEAST)) (mCons (mC (.str c_NULL)) mNil)))))) (tOr (tNot (tOf (mL isiD (mCons (mVar 3) (mCons (mC (.opq (.ty "tuple"))) mNil))))) (tNot (tOf (mChain leD leD (mC (.int 1)) (mL lenD (mCons (mVar 3) mNil)) (mC (.int c_MAX_ROWS))))))) (xRet (mC (.bl false))) xNx)
  (xRet (mL allD (mCons (mOfN q1_is_strand_of) mNil))))))
noncomputable def m_is_strand_of : List D → FR D := runF 5 b_is_strand_of
noncomputable def e1_are_strands : M D :=
  (mCall m_is_strand_of 2 [] (mCons (mVar 2) (mCons (mVar 1) mNil)))
noncomputable def q1_are_strands : M (List D) :=
  mLc (mWalk (mVar 0)) [2] (.sl 2) tYesM e1_are_strands
noncomputable def e2_are_strands : M D :=
  (mL allD (mCons (mOfN q1_are_strands) mNil))
noncomputable def q2_are_strands : M (List D) :=
  mLc (mItL range2D (mCons (mC (.int 1)) (mCons (m2 addD (mC (.int c_MAX_WIDTH)) (mC (.int 1))) mNil))) [1] (.sl 1) tYesM e2_are_strands
noncomputable def b_are_strands : M Fl :=
  (xSeq (xIf (tOr (tNot (tOf (mL isiD (mCons (mVar 0) (mCons (mC (.opq (.ty "tuple"))) mNil))))) (tNot (tOf (mChain leD leD (mC (.int 1)) (mL lenD (mCons (mVar 0) mNil)) (mC (.int c_MAX_STRANDS)))))) (xRet (mC (.bl false))) xNx)
  (xRet (mL anyD (mCons (mOfN q2_are_strands) mNil))))
noncomputable def m_are_strands : List D → FR D := runF 3 b_are_strands
noncomputable def b_System___init__ : M Fl :=
  (xSeq (xIf (tNot (tOf (mCall m_are_strands 1 [] (mCons (mVar 1) mNil)))) (xRaise (Str.ofString "InvalidSystem")) xNx)
  (xSeq (xFld 0 "System" "own_strands" (mVar 1))
  (xFld 0 "System" "own_width" (mL lenD (mCons (m2 ixD (m2 ixD (m2 ixD (mVar 1) (mC (.int 0))) (mC (.int 1))) (mC (.int 0))) mNil)))))
noncomputable def m_System___init__ : SV → List D → IR := runI 2 b_System___init__
noncomputable def b__law_pick : M Fl :=
  (xRet (m2 ixD (mVar 1) (mIo m__law_bit 1 0 (mCons (mL lenD (mCons (mVar 1) mNil)) mNil))))
noncomputable def m__law_pick : SV → List D → IR := runI 2 b__law_pick
noncomputable def b__law_small : M Fl :=
  (xSeq (xPut (.sl 2) (mIo m__law_bit 1 0 (mCons (mC (.int 4)) mNil)))
  (xRet (mIf (tOf (m2 ltD (mVar 2) (mC (.int 2)))) (mVar 2) (m2 subD (mIo m__law_bit 1 0 (mCons (m2 addD (m2 mulD (mC (.int 2)) (mVar 1)) (mC (.int 1))) mNil)) (mVar 1)))))
noncomputable def m__law_small : SV → List D → IR := runI 3 b__law_small
noncomputable def e1__law_line : M D :=
  (mIo m__law_small 1 0 (mCons (mVar 2) mNil))
noncomputable def q1__law_line : M (List D) :=
  mLc (mItL range1D (mCons (mVar 1) mNil)) [3] (.sl 3) tYesM e1__law_line
noncomputable def b__law_line : M Fl :=
  (xRet (mL tupleD (mCons (mOfN q1__law_line) mNil)))
noncomputable def m__law_line : SV → List D → IR := runI 4 b__law_line
noncomputable def y1__law_strand : M Fl :=
  (xDrop (mApp 5 (mIf (tOf (m2 gtD (mIo m__law_bit 1 0 (mCons (mC (.int 8)) mNil)) (mC (.int 0)))) (mIo m__law_line 2 0 (mCons (mVar 1) (mCons (mVar 2) mNil))) (m2 mulD (mL tupD (mCons (mC (.int 0)) mNil)) (mVar 1)))))
noncomputable def f1__law_strand : M Fl :=
  xFor (mItL range1D (mCons (m2 addD (mC (.int 1)) (mIo m__law_bit 1 0 (mCons (mVar 3) mNil))) mNil)) (.sl 6) y1__law_strand
noncomputable def b__law_strand : M Fl :=
  (xSeq (xPut (.sl 4) (mIo m__law_pick 1 0 (mCons (mL lstD (mCons (mC (.str (Str.ofString "more"))) (mCons (mC (.str (Str.ofString "more"))) (mCons (mC (.str (Str.ofString "least"))) (mCons (mC (.str (Str.ofString "least"))) (mCons (mC (.str (Str.ofString "null"))) mNil)))))) mNil)))
  (xSeq (xOwn 5 (mLstN mNil))
  (xSeq f1__law_strand
  (xRet (mL tupD (mCons (mVar 4) (mCons (mL tupleD (mCons (mVar 5) mNil)) mNil)))))))
noncomputable def m__law_strand : SV → List D → IR := runI 7 b__law_strand
noncomputable def e1__law_dealt : M D :=
  (mPopAt 2 (mIo m__law_bit 1 0 (mCons (mLenN 2) mNil)))
noncomputable def q1__law_dealt : M (List D) :=
  mLc (mItL range1D (mCons (mL lenD (mCons (mVar 1) mNil)) mNil)) [3] (.sl 3) tYesM e1__law_dealt
noncomputable def b__law_dealt : M Fl :=
  (xSeq (xOwn 2 (mListN (mCons (mVar 1) mNil)))
  (xRet (mOfN q1__law_dealt)))
noncomputable def m__law_dealt : SV → List D → IR := runI 4 b__law_dealt
noncomputable def e1__law_pack : M D :=
  (mIo m__law_strand 3 0 (mCons (mVar 1) (mCons (mC (.int 2)) (mCons (mC (.int 3)) mNil))))
noncomputable def q1__law_pack : M (List D) :=
  mLc (mItL range1D (mCons (m2 addD (mC (.int 1)) (mIo m__law_bit 1 0 (mCons (mVar 2) mNil))) mNil)) [5] (.sl 5) tYesM e1__law_pack
noncomputable def e2__law_pack : M D :=
  (m2 subD (mC (.int 0)) (mVar 9))
noncomputable def q2__law_pack : M (List D) :=
  mLc (mWalk (mVar 8)) [9] (.sl 9) tYesM e2__law_pack
noncomputable def e3__law_pack : M D :=
  (mL tupleD (mCons (mOfN q2__law_pack) mNil))
noncomputable def q3__law_pack : M (List D) :=
  mLc (mWalk (mVar 7)) [8] (.sl 8) tYesM e3__law_pack
noncomputable def b__law_pack : M Fl :=
  (xSeq (xOwn 3 q1__law_pack)
  (xSeq (xIf (tOf (m2 eqD (mIo m__law_bit 1 0 (mCons (mC (.int 2)) mNil)) (mC (.int 0)))) (xSeq (xPut (.tp [(.sl 6), (.sl 7)]) (mPeek 3 (mIo m__law_pick 1 0 (mCons (mVar 3) mNil))))
  (xSeq (xPut (.sl 4) (mL tupleD (mCons (mOfN q3__law_pack) mNil)))
  (xDrop (mApp 3 (mL tupD (mCons (mIo m__law_pick 1 0 (mCons (mL lstD (mCons (mC (.str (Str.ofString "more"))) (mCons (mC (.str (Str.ofString "least"))) (mCons (mVar 6) mNil)))) mNil)) (mCons (mSlice (mVar 4) mONone (mOSome (m2 addD (mC (.int 1)) (mIo m__law_bit 1 0 (mCons (mL lenD (mCons (mVar 4) mNil)) mNil))))) mNil))))))) xNx)
  (xRet (mL tupleD (mCons (mIo m__law_dealt 1 0 (mCons (mVar 3) mNil)) mNil)))))
noncomputable def m__law_pack : SV → List D → IR := runI 10 b__law_pack
noncomputable def e1_is_name : M D :=
  (mChain leD leD (mC (.str (Str.ofString "a"))) (mVar 1) (mC (.str (Str.ofString "z"))))
noncomputable def q1_is_name : M (List D) :=
  mLc (mWalk (mVar 0)) [1] (.sl 1) tYesM e1_is_name
noncomputable def b_is_name : M Fl :=
  (xSeq (xIf (tOr (tNot (tOf (mL isiD (mCons (mVar 0) (mCons (mC (.opq (.ty "str"))) mNil))))) (tNot (tOf (mChain leD leD (mC (.int 1)) (mL lenD (mCons (mVar 0) mNil)) (mC (.int c_MAX_LETTERS)))))) (xRet (mC (.bl false))) xNx)
  (xRet (mL allD (mCons (mOfN q1_is_name) mNil))))
noncomputable def m_is_name : List D → FR D := runF 2 b_is_name
noncomputable def b_Loop_matrix : M Fl :=
  (xRet (m1 (fldD ["Loop"] "own_matrix") (mVar 0)))
noncomputable def m_Loop_matrix : List D → FR D := runF 1 b_Loop_matrix
noncomputable def b_is_integer_within : M Fl :=
  (xRet (mAnd (mCall m_is_integer 1 [] (mCons (mVar 0) mNil)) (mChain leD leD (mVar 1) (mVar 0) (mVar 2))))
noncomputable def m_is_integer_within : List D → FR D := runF 3 b_is_integer_within
noncomputable def b_require_index : M Fl :=
  (xIf (tNot (tOf (mCall m_is_integer_within 3 [] (mCons (mVar 1) (mCons (mC (.int 0)) (mCons (m2 subD (mL lenD (mCons (m1 (fldD ["System"] "own_strands") (mVar 0)) mNil)) (mC (.int 1))) mNil)))))) (xRaiseX (Str.ofString "InvalidNumber") (mCons (mVar 1) mNil)) xNx)
noncomputable def m_require_index : List D → FR D := runF 2 b_require_index
noncomputable def b_System_with_strand : M Fl :=
  (xRet (mMake "System" m_System___init__ 1 [] (mCons (mL tupD (mStar (m1 (fldD ["System"] "own_strands") (mVar 0)) (mCons (mL tupD (mCons (mVar 1) (mCons (mVar 2) mNil))) mNil))) mNil)))
noncomputable def m_System_with_strand : List D → FR D := runF 3 b_System_with_strand
noncomputable def b_System_strands : M Fl :=
  (xRet (m1 (fldD ["System"] "own_strands") (mVar 0)))
noncomputable def m_System_strands : List D → FR D := runF 1 b_System_strands
noncomputable def b_System___len__ : M Fl :=
  (xRet (mL lenD (mCons (m1 (fldD ["System"] "own_strands") (mVar 0)) mNil)))
noncomputable def m_System___len__ : List D → FR D := runF 1 b_System___len__
noncomputable def b_System_without_strand : M Fl :=
  (xSeq (xDrop (mCall m_require_index 2 [] (mCons (mVar 0) (mCons (mVar 1) mNil))))
  (xRet (mMake "System" m_System___init__ 1 [] (mCons (mL tupD (mStar (mSlice (m1 (fldD ["System"] "own_strands") (mVar 0)) mONone (mOSome (mVar 1))) (mStar (mSlice (m1 (fldD ["System"] "own_strands") (mVar 0)) (mOSome (m2 addD (mVar 1) (mC (.int 1)))) mONone) mNil))) mNil))))
noncomputable def m_System_without_strand : List D → FR D := runF 2 b_System_without_strand
noncomputable def b_require_index_k29 : M Fl :=
  (xIf (tNot (tOf (mCall m_is_integer_within 3 [] (mCons (mVar 1) (mCons (mC (.int 0)) (mCons (m2 subD (mL lenD (mCons (m1 (fldD ["System"] "own_strands") (mVar 0)) mNil)) (mC (.int 1))) mNil)))))) (xRaiseI (Str.ofString "InvalidNumber") (Str.ofString "value") (mVar 1)) xNx)
noncomputable def m_require_index_k29 : List D → FR D := runF 2 b_require_index_k29
noncomputable def b_System_without_strand_k29 : M Fl :=
  (xSeq (xDrop (mCall m_require_index_k29 2 [] (mCons (mVar 0) (mCons (mVar 1) mNil))))
  (xRet (mMake "System" m_System___init__ 1 [] (mCons (mL tupD (mStar (mSlice (m1 (fldD ["System"] "own_strands") (mVar 0)) mONone (mOSome (mVar 1))) (mStar (mSlice (m1 (fldD ["System"] "own_strands") (mVar 0)) (mOSome (m2 addD (mVar 1) (mC (.int 1)))) mONone) mNil))) mNil))))
noncomputable def m_System_without_strand_k29 : List D → FR D := runF 2 b_System_without_strand_k29
noncomputable def b_Loop_width : M Fl :=
  (xRet (m1 (fldD ["Loop"] "own_width") (mVar 0)))
noncomputable def m_Loop_width : List D → FR D := runF 1 b_Loop_width
noncomputable def b_Loop_names : M Fl :=
  (xRet (m1 (fldD ["Loop"] "own_names") (mVar 0)))
noncomputable def m_Loop_names : List D → FR D := runF 1 b_Loop_names
noncomputable def b_Loop_steps : M Fl :=
  (xRet (m1 (fldD ["Loop"] "own_steps") (mVar 0)))
noncomputable def m_Loop_steps : List D → FR D := runF 1 b_Loop_steps
noncomputable def b_Loop_tests : M Fl :=
  (xRet (m1 (fldD ["Loop"] "own_tests") (mVar 0)))
noncomputable def m_Loop_tests : List D → FR D := runF 1 b_Loop_tests
noncomputable def y1_require_rows : M Fl :=
  (xSeq (xPut (.sl 1) (mIf (tAnd (tOf (m2 isD (mVar 1) (mC .non))) (tOf (mCall m_is_row 1 [] (mCons (mVar 3) mNil)))) (mL lenD (mCons (mVar 3) mNil)) (mVar 1)))
  (xIf (tOr (tNot (tOf (mCall m_is_row 1 [] (mCons (mVar 3) mNil)))) (tNot (tOf (mCall m_is_row_within 3 [] (mCons (mVar 3) (mCons (mVar 1) (mCons (mC (.int c_MAX_SIZE)) mNil))))))) (xRaise (Str.ofString "InvalidOperation")) xNx))
noncomputable def f1_require_rows : M Fl :=
  xFor (mWalk (mVar 2)) (.sl 3) y1_require_rows
noncomputable def y2_require_rows : M Fl :=
  (xSeq (xIf (tNot (tOf (mL isiD (mCons (mVar 2) (mCons (mC (.opq (.ty "tuple"))) mNil))))) (xRaise (Str.ofString "InvalidOperation")) xNx)
  f1_require_rows)
noncomputable def f2_require_rows : M Fl :=
  xFor (mWalk (mL tupD (mStar (mSlice (mVar 0) mONone (mOSome (mC (.int 2)))) (mCons (mL tupD (mCons (m2 ixD (mVar 0) (mC (.int 2))) mNil)) mNil)))) (.sl 2) y2_require_rows
noncomputable def b_require_rows : M Fl :=
  (xSeq (xPut (.sl 1) (mC .non))
  f2_require_rows)
noncomputable def m_require_rows : List D → FR D := runF 4 b_require_rows
end Pm
namespace Mr
open PySem PySem.Spec PyProof.Rows L2
variable [Lam] [Pins]
section
variable {X : Cx} {W : WX}
end
end Mr
namespace Mr
open PySem PySem.Spec PyProof.Rows L2
variable [Lam] [Pins]
section
variable {X : Cx} {W : WX}
end
end Mr
namespace Mr
open PySem PySem.Spec PyProof.Rows L2
variable [Lam] [Pins]
section
variable {X : Cx} {W : WX}
def boolD : List D → FR D
  | [.int i] => .ok (.bl (i != 0))
  | [.bl b] => .ok (.bl b)
  | _ => .stuck
theorem CA.bool : CA X W (.type "bool") boolD := by
  refine ⟨_, call_bool1, fun G σ H F ρ vs ds Q S r hg => ?_⟩
  unfold boolD at hg
  split at hg
  · obtain ⟨v, rfl, rv⟩ := reps1 r
    cases rv
    exact .inl ⟨_, rfl, hg H F S Sm.refl _ (.bl _)⟩
  · obtain ⟨v, rfl, rv⟩ := reps1 r
    cases rv
    exact .inr ⟨_, rfl, hg H F S Sm.refl _ (.bl _)⟩
  · exact hg.elim
end
end Mr
namespace Mr
open PySem PySem.Spec PyProof.Rows L2
variable [Lam] [Pins]
section
variable {X : Cx} {W : WX}
end
end Mr
namespace Pm
open PySem PySem.Spec PyProof.Rows L2 Mr
end Pm
namespace Pm
open PySem PySem.Spec PyProof.Rows L2 Mr
end Pm
namespace Pm
open PySem PySem.Spec PyProof.Rows L2 Mr
end Pm
namespace Mr
open PySem PySem.Spec PyProof.Rows L2
section
variable {X : Cx} {pins : List (Addr × Obj)} {σ : L2.St} {H : Hp} {s : Shared}
end
section
variable [Lam] [P0 : Pins]
variable {K : PySem.W.Frag} {G : Ent} {σ : L2.St} {H F : Hp} {ρ : Ro}
theorem SlotOk.heap {H H' : Hp} {a : Addr} {sv : SV} (q : SlotOk K H F (some (some (V.ref a))) sv) (ho : sv.isOwn = true) (e : H' a = H a) : SlotOk K H' F (some (some (V.ref a))) sv := by
  cases sv with
  | own p xs => obtain ⟨b, vs, e1, e2, r⟩ := q; cases e1; exact ⟨a, vs, rfl, e.trans e2, r⟩
  | ins p c ns ds => obtain ⟨b, dx, vs, e1, e2, r⟩ := q; cases e1; exact ⟨a, dx, vs, rfl, e.trans e2, r⟩
  | dic p ks ds => obtain ⟨b, vs, e1, e2, r⟩ := q; cases e1; exact ⟨a, vs, rfl, e.trans e2, r⟩
  | nst p ks => obtain ⟨b, vs, e1, ⟨o, e2, z⟩, r⟩ := q; cases e1; exact ⟨a, vs, rfl, ⟨o, e.trans e2, z⟩, r⟩
  | _ => cases ho
end
section
variable [Lam]
/-- .. and what is at a and b -/
structure SmB (K : PySem.W.Frag) (a b : Addr) (H H' : Hp) : Prop where
  k : ∀ c o, c ≠ a → c ≠ b → H c = some o → isTb o = false → H' c = some o
  t : LamX.Tabs (Lam.T K) H → LamX.Tabs (Lam.T K) H'
structure AftIo2 (K : PySem.W.Frag) (a b : Addr) (sv sl : SV) (H F H' F' : Hp) : Prop where
  h : SmB K a b H H'
  sub : Sm F' H'
  f : Sm F F'
  new : ∀ c o, F' c = some o → F c = some o ∨ Nn H c
  ft : Ftb F → Ftb F'
  at_ : SlotOk K H' F' (some (some (V.ref a))) sv
  own : sv.isHd = true
  atl : SlotOk K H' F' (some (some (V.ref b))) sl
  ownl : sl.isHd = true
inductive IR2 where
  | ok (d : D) (sv sl : SV)
  | exc (x : Ex) (sv sl : SV)
  | stuck
end
end Mr
namespace Mr
open PySem PySem.Spec PyProof.Rows L2
section
variable [Lam]
variable {P : Program} {w : World} {K : PySem.W.Frag} {mg : Str → Option Value} {base : Heap}
end
end Mr
namespace Mr
open PySem PySem.Spec PyProof.Rows L2
section
variable [Lam] [P0 : Pins]
variable {X : Cx} {W : WX} {k n : Nat} {f : Addr} {fd : FuncData} {ps : List Str} {x y c m : Str} {p py pos apos : Pos} {e : Expr} {es : List Expr} {fs : M (List D)} {fe fi : M D} {mi : Addr → SV → SV → List D → IR2}
end
end Mr
namespace Mr
open PySem PySem.Spec PyProof.Rows L2
section
variable [Lam] [P0 : Pins]
variable {X : Cx} {W : WX} {k n : Nat} {x y c f : Str} {p py pos p1 p2 : Pos} {e ie : Expr} {fe fi : M D}
end
end Mr
namespace Mr
open PySem PySem.Spec PyProof.Rows L2
section
variable {X : Cx} {pins : List (Addr × Obj)} {σ : L2.St} {H : Hp} {s : Shared}
end
section
variable [Lam]
structure AftIn (K : PySem.W.Frag) (a b : Addr) (sv sl : SV) (H F H' F' : Hp) : Prop where
  h : SmA K a H H'
  sub : Sm F' H'
  f : Sm F F'
  new : ∀ c o, F' c = some o → F c = some o ∨ Nn H c
  ft : Ftb F → Ftb F'
  nb : Nn H b
  at_ : SlotOk K H' F' (some (some (V.ref a))) sv
  own : sv.isHd = true
  atl : SlotOk K H' F' (some (some (V.ref b))) sl
  ownl : sl.isHd = true
variable {P : Program} {w : World} {K : PySem.W.Frag} {mg : Str → Option Value} {base : Heap}
end
end Mr
namespace Mr
open PySem PySem.Spec PyProof.Rows L2
section
variable [Lam] [P0 : Pins]
end
section
variable [Lam]
variable {P : Program} {w : World} {K : PySem.W.Frag} {mg : Str → Option Value} {base : Heap}
end
end Mr
namespace Mr
open PySem PySem.Spec PyProof.Rows L2
end Mr
namespace Mr
open PySem PySem.Spec PyProof.Rows L2 LamX
@[reducible] def pinV (f : Addr) (p : Nat) (F : Hp) : Pins := ⟨[(p, .ref f)], F⟩
section
variable [Lam] [P0 : Pins]
end
section
variable [Lam] [P0 : Pins]
end
section
variable [Lam]
end
section
variable [Lam] [P0 : Pins]
end
end Mr
namespace Mr
open PySem PySem.Spec PyProof.Rows L2
variable [Lam] [Pins]
section
variable {X : Cx} {W : WX}
end
end Mr
namespace Mr
open PySem PySem.Spec PyProof.Rows L2
variable [Lam] [Pins]
section
variable {X : Cx} {W : WX} {e : Expr} {es : List Expr} {pos : Pos}
/-- names alone as a target -/
def AGm (X : Cx) (tg : List Expr) (is : List Nat) : Prop := ∃ g, PGs X tg g ∧ ∀ vs σ H Q, vs.length = is.length → Q (setVsσ is vs σ) H → g vs σ H Q
theorem AGm.nil : AGm X [] [] := ⟨_, pgs_nil, fun vs σ H Q l q => by
  cases vs with
  | nil => exact ⟨rfl, q⟩
  | cons => simp at l⟩
theorem AGm.name {i : Nat} {x : Str} {es : List Expr} {is : List Nat} (hN : X.N.Nodup) (hi : X.N[i]? = some x) (hx : Loc X.env.scope x) (hr : AGm X es is) (hf : X.fn x = true ∨ X.env.scope.names.lookup x = some .local := by first | exact .inl rfl | exact .inr rfl)
    (hs : (assignEach (.Name x pos :: es) X.env).map (·.2) = assign (.Name x pos) X.env :: (assignEach es X.env).map (·.2) := by rfl) : AGm X (.Name x pos :: es) (i :: is) := by
  obtain ⟨gs, pgs, qgs⟩ := hr
  refine ⟨_, pgs_cons (pg_name hN hi hx hf) pgs hs, fun vs σ H Q l q => ?_⟩
  cases vs with
  | nil => simp at l
  | cons v vs => exact ⟨v, vs, rfl, qgs vs _ H Q (by simpa using l) q⟩
end
end Mr
namespace Mr
open PySem PySem.Spec PyProof.Rows L2
variable [Lam] [Pins]
section
variable {X : Cx} {W : WX} {o e : Expr} {fo fe : M D} {pos : Pos}
end
end Mr
namespace Mr
open PySem PySem.Spec PyProof.Rows L2
variable [Lam] [Pins]
def mLenDN (j : Nat) : M D := fun ρ => match ρ.getD j .un with
  | .dic _ ks _ => .ok (.int ks.length) ρ
  | _ => .stuck
theorem cr_lenDK {X : Cx} : CallR X (.builtin "len") (fun xs H Q => ∃ (a : Addr) (kvs : List (Key × V)), xs = [.ref a] ∧ Rd H a (.dK kvs) ∧ Q (.int ((kvs.length : Nat) : Int)) H) := by
  intro pins s σ H xs us Q I r ⟨a, kvs, e, hd, q⟩
  subst e
  obtain ⟨u, rfl, rx⟩ := vals1 r
  obtain rfl : u = .ref a := rx
  exact d_len I hd fun t s' I' => ⟨.int ((kvs.length : Nat) : Int), H, I', ⟨_, rfl⟩, q⟩
section
variable {X : Cx} {W : WX} {pos py : Pos} {y : Str}
theorem AE.lenDN {j : Nat} {px : Pos} (h0 : PE X (.Name y py) (tVar j)) (hg : Gl X "len") (hm : X.mg "len" = none) (he : starEach [.Name y py] X.env = (false, eval (.Name y py) X.env) :: starEach [] X.env := by rfl) (hpl : (backTo pos (starEach [] X.env)).any (·.1) = false := by rfl) : AE X W (.Call (.Name "len" px) [.Name y py] [] pos) (mLenDN j) := by
  refine ⟨_, pe_callB cr_lenDK hg hm PySem.boot_len (pa_cons h0 pa_nil he) (by decide) (by decide) he hpl, fun G σ H F ρ Q S hgd => ?_⟩
  unfold mLenDN at hgd
  split at hgd
  · rename_i p0 ks ds e0
    obtain ⟨a, vs, e1, e2, e3, e4, r⟩ := dic_at S e0
    refine ⟨_, e1, a, _, rfl, .inl e2, ?_⟩
    rw [List.length_zip, e3, Nat.min_self, ← e3]
    exact hgd H F S Sm.refl _ (.int _)
  · exact hgd.elim
end
end Mr
namespace Hx
open PySem PySem.Spec PyProof.Rows L2 L2H HotX
section
variable {prog : Program} {w : World} {A : Around} {E : Value → Shared → Prop} {s : Shared}
/-- a new StopIteration is raised -/
theorem stop_hot {x1 : Addr} {Q : Fin → Shared → Prop} (hot : HotAt A x1 s.heap)
    (hE : ∀ h' a, (∀ b o, s.heap.get? b = some o → h'.get? b = some o) → (∃ o, h'.get? a = some o ∧ o.cls = .type "StopIteration") → E (.ref a) { s with heap := h' }) :
    wpAny (model prog w) A Builtin.SmallTypes.stopIteration Q E s := by
  show wpAny _ _ (newExc (.type "StopIteration") [] >>= _) _ _ _
  obtain ⟨hh, o1, vs1, h1, d1, c1⟩ := hot
  refine wpAny_bind ?_; simp only [newExc, newTuple]
  refine wpAny_bind (wpAny_newObj_type (wpAny_bind (m := firstArgMember _ _) (wpAny_of_eq (a := Value.none) (by first | rfl | (simp only [firstArgMember]; rfl)) (wpAny_newObj_type ?_ (by size_fits)))) (by size_fits))
  refine raiseNew_hot ⟨hh, o1, vs1, Heap.get?_push_of_some _ (Heap.get?_push_of_some _ h1), d1, c1⟩ (Nat.ne_of_lt (Heap.lt_size (Heap.get?_push_of_some _ h1))) (Heap.get?_push_size _ rfl) rfl
    (by first | (simp; done) | (simp; omega) | (simp only [Array.size_append]; simp; omega)) ?_
  refine hE _ _ (fun b o e => (Heap.get?_update_other _ _ (Nat.ne_of_gt (Heap.lt_size (Heap.get?_push_of_some _ e)))).trans (Heap.get?_push_of_some _ (Heap.get?_push_of_some _ e))) ⟨_, Heap.get?_update_self _ (Heap.get?_push_size _ rfl) rfl, rfl⟩
theorem HotAt.upd {x1 a : Addr} {h : Heap} {f : Obj → Obj} (hot : HotAt A x1 h) (hne : x1 ≠ a) : HotAt A x1 (h.update a f) := by
  obtain ⟨hh, o1, vs1, h1, d1, c1⟩ := hot
  exact ⟨hh, o1, vs1, (Heap.get?_update_other _ _ (Ne.symm hne)).trans h1, d1, c1⟩
theorem HotAt.in1 {x1 : Addr} {h : Heap} (hot : HotAt A x1 h) : HotAt A.in1 x1 h := hot
theorem HotAt.keep {x1 : Addr} {h h' : Heap} (hot : HotAt A x1 h) (k : ∀ o, h.get? x1 = some o → h'.get? x1 = some o) : HotAt A x1 h' := by
  obtain ⟨hh, o1, vs1, h1, d1, c1⟩ := hot
  exact ⟨hh, o1, vs1, k _ h1, d1, c1⟩
theorem tup_end {it t x1 : Addr} {i : Nat} {items : Array Value} {Q : Option Value → Shared → Prop} (hot : HotAt A x1 s.heap) (hne : x1 ≠ it)
    (hit : s.heap.IsTupleIter it t i) (ht : s.heap.IsTuple t items) (hx : items[i]? = none)
    (hQ : ∀ h', Heap.ExtBut it s.heap h' → Q none { s with heap := h' }) : wpAny (model prog w) A (pyNext (.ref it)) Q E s := by
  obtain ⟨o, ho, hc, hd⟩ := id hit; obtain ⟨ol, hol, _, nl, hdl⟩ := ht
  unfold pyNext
  refine wpAny_bind (wpAny_attempt (wpAny_callSpecial?_slot (name := Str.ofString "__next__") hit.typeIs F.slot_tuple_iterator_next (wpAny_call_entry F.slot_tuple_iterator_next hit.typeIs F.entry_tuple_iterator_next ?_ (F.args_tuple_iterator_next_1 _))))
  show wpAny _ _ (field (.ref it) 0 >>= _) _ _ s; refine wpAny_bind (wpAny_field ho hd (x := .ref t) rfl ?_)
  show wpAny _ _ (if (Value.ref t == Value.none) = true then _ else _) _ _ s; rw [if_neg (show ¬ ((Value.ref t == Value.none) = true) from Bool.false_ne_true)]
  show wpAny _ _ (field (.ref it) 1 >>= _) _ _ s; refine wpAny_bind (wpAny_field ho hd (x := .int i 0) rfl ?_)
  show wpAny _ _ (seqItems? (.ref t) >>= _) _ _ s; refine wpAny_bind (wpAny_seqItems hol hdl ?_)
  simp only [Int.toNat_natCast, hx]; refine wpAny_bind (wpAny_rule (wpAny_bind (wpAny_setField ho hd (by simp) ?_)))
  refine stop_hot (HotAt.in1 (HotAt.upd hot hne)) fun h' a k hs => wpAny_bind (wpAny_isInstance (T := "StopIteration") (b := true) hs isSubtype_stop (wpAny_pure (hQ _ fun b o hb e => k b o ((Heap.SameBut.update ..).extBut b o hb e))))
theorem lst_end {it t x1 : Addr} {i : Nat} {items : Array Value} {Q : Option Value → Shared → Prop} (hot : HotAt A x1 s.heap) (hne : x1 ≠ it)
    (hit : s.heap.IsListIter it t i) (ht : s.heap.IsList t items) (hx : items[i]? = none)
    (hQ : ∀ h', Heap.ExtBut it s.heap h' → Q none { s with heap := h' }) : wpAny (model prog w) A (pyNext (.ref it)) Q E s := by
  obtain ⟨o, ho, hc, hd⟩ := id hit; obtain ⟨ol, hol, _, nl, hdl⟩ := ht
  unfold pyNext
  refine wpAny_bind (wpAny_attempt (wpAny_callSpecial?_slot (name := Str.ofString "__next__") hit.typeIs slot_listiter_next (wpAny_call_entry slot_listiter_next hit.typeIs entry_listiter_next ?_ (args_listiter_next _))))
  show wpAny _ _ (field (.ref it) 0 >>= _) _ _ s; refine wpAny_bind (wpAny_field ho hd (x := .ref t) rfl ?_)
  show wpAny _ _ (if (Value.ref t == Value.none) = true then _ else _) _ _ s; rw [if_neg (show ¬ ((Value.ref t == Value.none) = true) from Bool.false_ne_true)]
  show wpAny _ _ (field (.ref it) 1 >>= _) _ _ s; refine wpAny_bind (wpAny_field ho hd (x := .int i 0) rfl ?_)
  show wpAny _ _ (seqItems? (.ref t) >>= _) _ _ s; refine wpAny_bind (wpAny_seqItems hol hdl ?_)
  simp only [Int.toNat_natCast, hx]; refine wpAny_bind (wpAny_rule (wpAny_bind (wpAny_setField ho hd (by simp) ?_)))
  refine stop_hot (HotAt.in1 (HotAt.upd hot hne)) fun h' a k hs => wpAny_bind (wpAny_isInstance (T := "StopIteration") (b := true) hs isSubtype_stop (wpAny_pure (hQ _ fun b o hb e => k b o ((Heap.SameBut.update ..).extBut b o hb e))))
theorem tup_endN {it t x1 : Addr} {i : Nat} {items : Array Value} {Q : Value → Shared → Prop} (hot : HotAt A x1 s.heap) (hne : x1 ≠ it)
    (hit : s.heap.IsTupleIter it t i) (ht : s.heap.IsTuple t items) (hx : items[i]? = none)
    (hE : ∀ h' e, Heap.ExtBut it s.heap h' → (∃ o, h'.get? e = some o ∧ o.cls = .type "StopIteration") → E (.ref e) { s with heap := h' }) : wpAny (model prog w) A (Builtin.SmallTypes.nextOf (.ref it)) Q E s := by
  obtain ⟨o, ho, hc, hd⟩ := id hit; obtain ⟨ol, hol, _, nl, hdl⟩ := ht
  unfold Builtin.SmallTypes.nextOf
  refine wpAny_bind (wpAny_callSpecial?_slot (name := Str.ofString "__next__") hit.typeIs F.slot_tuple_iterator_next (wpAny_call_entry F.slot_tuple_iterator_next hit.typeIs F.entry_tuple_iterator_next ?_ (F.args_tuple_iterator_next_1 _)))
  show wpAny _ _ (field (.ref it) 0 >>= _) _ _ s; refine wpAny_bind (wpAny_field ho hd (x := .ref t) rfl ?_)
  show wpAny _ _ (if (Value.ref t == Value.none) = true then _ else _) _ _ s; rw [if_neg (show ¬ ((Value.ref t == Value.none) = true) from Bool.false_ne_true)]
  show wpAny _ _ (field (.ref it) 1 >>= _) _ _ s; refine wpAny_bind (wpAny_field ho hd (x := .int i 0) rfl ?_)
  show wpAny _ _ (seqItems? (.ref t) >>= _) _ _ s; refine wpAny_bind (wpAny_seqItems hol hdl ?_)
  simp only [Int.toNat_natCast, hx]; refine wpAny_bind (wpAny_rule (wpAny_bind (wpAny_setField ho hd (by simp) ?_)))
  refine stop_hot (HotAt.in1 (HotAt.upd hot hne)) fun h' a k hs => hE _ _ (fun b o hb e => k b o ((Heap.SameBut.update ..).extBut b o hb e)) hs
theorem lst_endN {it t x1 : Addr} {i : Nat} {items : Array Value} {Q : Value → Shared → Prop} (hot : HotAt A x1 s.heap) (hne : x1 ≠ it)
    (hit : s.heap.IsListIter it t i) (ht : s.heap.IsList t items) (hx : items[i]? = none)
    (hE : ∀ h' e, Heap.ExtBut it s.heap h' → (∃ o, h'.get? e = some o ∧ o.cls = .type "StopIteration") → E (.ref e) { s with heap := h' }) : wpAny (model prog w) A (Builtin.SmallTypes.nextOf (.ref it)) Q E s := by
  obtain ⟨o, ho, hc, hd⟩ := id hit; obtain ⟨ol, hol, _, nl, hdl⟩ := ht
  unfold Builtin.SmallTypes.nextOf
  refine wpAny_bind (wpAny_callSpecial?_slot (name := Str.ofString "__next__") hit.typeIs slot_listiter_next (wpAny_call_entry slot_listiter_next hit.typeIs entry_listiter_next ?_ (args_listiter_next _)))
  show wpAny _ _ (field (.ref it) 0 >>= _) _ _ s; refine wpAny_bind (wpAny_field ho hd (x := .ref t) rfl ?_)
  show wpAny _ _ (if (Value.ref t == Value.none) = true then _ else _) _ _ s; rw [if_neg (show ¬ ((Value.ref t == Value.none) = true) from Bool.false_ne_true)]
  show wpAny _ _ (field (.ref it) 1 >>= _) _ _ s; refine wpAny_bind (wpAny_field ho hd (x := .int i 0) rfl ?_)
  show wpAny _ _ (seqItems? (.ref t) >>= _) _ _ s; refine wpAny_bind (wpAny_seqItems hol hdl ?_)
  simp only [Int.toNat_natCast, hx]; refine wpAny_bind (wpAny_rule (wpAny_bind (wpAny_setField ho hd (by simp) ?_)))
  refine stop_hot (HotAt.in1 (HotAt.upd hot hne)) fun h' a k hs => hE _ _ (fun b o hb e => k b o ((Heap.SameBut.update ..).extBut b o hb e)) hs
/-- a tuple's items, unpacked -/
theorem unpackH {t x1 : Addr} {items : Array Value} {Q : List Value → Shared → Prop} (hot : HotAt A x1 s.heap) (ht : s.heap.IsTuple t items)
    (hQ : ∀ h', Heap.ExtBut s.heap.objs.size s.heap h' → Q items.toList { s with heap := h' }) : wpAny (model prog w) A (unpackItems (.ref t) items.size none) Q E s := by
  have lt : t ≠ s.heap.objs.size := by obtain ⟨o, ho, _⟩ := ht; exact Nat.ne_of_lt (Heap.lt_size ho)
  have lx : x1 ≠ s.heap.objs.size := by obtain ⟨_, o, _, ho, _⟩ := hot; exact Nat.ne_of_lt (Heap.lt_size ho)
  unfold unpackItems
  refine wpAny_bind ?_
  unfold notIterableAtAll
  refine wpAny_bind (wpAny_specialOf ht.typeIs F.slot_tuple_iter.lookup (wpAny_pure ?_))
  simp only [Bool.false_eq_true, if_false]
  refine wpAny_bind (wpAny_holding (wpAny_pyIter_tuple ht (wpAny_bind (wpAny_holding (wpAny_draw_tuple lt items.size 0 _ _ ⟨_, Heap.get?_push_size _ rfl, rfl, rfl⟩ (ht.push _) (by omega) fun h1 hit1 hs1 => ?_)))))
  rw [show List.take items.size (List.drop 0 items.toList) = items.toList by rw [List.drop_zero]; exact List.take_of_length_le (by simp), if_neg (by simp)]
  have hot1 : HotAt A x1 h1 := HotAt.keep (HotAt.keep hot fun o e => Heap.get?_push_of_some _ e) fun o e => hs1.extBut _ _ lx e
  refine wpAny_bind (wpAny_holding (tup_end hot1 lx hit1 ((ht.push _).extBut hs1.extBut lt) (by simp) fun h2 he2 => ?_))
  simp only [Option.isSome_none, Bool.false_eq_true, if_false]
  exact wpAny_pure (hQ h2 fun b o hb e => he2 b o hb (hs1.extBut b o hb (Heap.get?_push_of_some _ e)))
end
end Hx
namespace Hx
open PySem PySem.Spec PyProof.Rows L2 L2H HotX
section
variable {prog : Program} {w : World} {A : Around} {E : Value → Shared → Prop} {s : Shared}
theorem asc_end {it x1 : Addr} {x : Str} {t : Tok} {i : Nat} {Q : Option Value → Shared → Prop} (hot : HotAt A x1 s.heap) (hne : x1 ≠ it)
    (hit : s.heap.IsStrIter it "str_ascii_iterator" x t i) (hx : x.cps[i]? = none)
    (hQ : ∀ h', Heap.ExtBut it s.heap h' → Q none { s with heap := h' }) : wpAny (model prog w) A (pyNext (.ref it)) Q E s := by
  obtain ⟨o, ho, hc, hd⟩ := id hit
  unfold pyNext
  refine wpAny_bind (wpAny_attempt (wpAny_callSpecial?_slot (name := Str.ofString "__next__") hit.typeIs F.slot_str_ascii_iterator_next (wpAny_call_entry F.slot_str_ascii_iterator_next hit.typeIs F.entry_str_ascii_iterator_next ?_ (F.args_str_ascii_iterator_next_1 _))))
  show wpAny _ _ (field (.ref it) 0 >>= _) _ _ s; refine wpAny_bind (wpAny_field ho hd (x := .str x t) rfl ?_)
  show wpAny _ _ (field (.ref it) 1 >>= _) _ _ s; refine wpAny_bind (wpAny_field ho hd (x := .int i 0) rfl ?_)
  simp only [Int.toNat_natCast, hx]; refine wpAny_bind (wpAny_rule (wpAny_bind (wpAny_setField ho hd (by simp) (wpAny_bind (wpAny_letGo ?_)))))
  refine stop_hot (HotAt.in1 (HotAt.upd hot hne)) fun h' a k hs => wpAny_bind (wpAny_isInstance (T := "StopIteration") (b := true) hs isSubtype_stop (wpAny_pure (hQ _ fun b o hb e => k b o ((Heap.SameBut.update ..).extBut b o hb e))))
theorem wid_end {it x1 : Addr} {x : Str} {t : Tok} {i : Nat} {Q : Option Value → Shared → Prop} (hot : HotAt A x1 s.heap) (hne : x1 ≠ it)
    (hit : s.heap.IsStrIter it "str_iterator" x t i) (hx : x.cps[i]? = none)
    (hQ : ∀ h', Heap.ExtBut it s.heap h' → Q none { s with heap := h' }) : wpAny (model prog w) A (pyNext (.ref it)) Q E s := by
  obtain ⟨o, ho, hc, hd⟩ := id hit
  unfold pyNext
  refine wpAny_bind (wpAny_attempt (wpAny_callSpecial?_slot (name := Str.ofString "__next__") hit.typeIs F.slot_str_iterator_next (wpAny_call_entry F.slot_str_iterator_next hit.typeIs F.entry_str_iterator_next ?_ (F.args_str_iterator_next_1 _))))
  show wpAny _ _ (field (.ref it) 0 >>= _) _ _ s; refine wpAny_bind (wpAny_field ho hd (x := .str x t) rfl ?_)
  show wpAny _ _ (field (.ref it) 1 >>= _) _ _ s; refine wpAny_bind (wpAny_field ho hd (x := .int i 0) rfl ?_)
  simp only [Int.toNat_natCast, hx]; refine wpAny_bind (wpAny_rule (wpAny_bind (wpAny_setField ho hd (by simp) (wpAny_bind (wpAny_letGo ?_)))))
  refine stop_hot (HotAt.in1 (HotAt.upd hot hne)) fun h' a k hs => wpAny_bind (wpAny_isInstance (T := "StopIteration") (b := true) hs isSubtype_stop (wpAny_pure (hQ _ fun b o hb e => k b o ((Heap.SameBut.update ..).extBut b o hb e))))
/-- a list's items, unpacked -/
theorem unpackLH {t x1 : Addr} {items : Array Value} {Q : List Value → Shared → Prop} (hot : HotAt A x1 s.heap) (ht : s.heap.IsList t items)
    (hQ : ∀ h', Heap.ExtBut s.heap.objs.size s.heap h' → Q items.toList { s with heap := h' }) : wpAny (model prog w) A (unpackItems (.ref t) items.size none) Q E s := by
  have lt : t ≠ s.heap.objs.size := by obtain ⟨o, ho, _⟩ := ht; exact Nat.ne_of_lt (Heap.lt_size ho)
  have lx : x1 ≠ s.heap.objs.size := by obtain ⟨_, o, _, ho, _⟩ := hot; exact Nat.ne_of_lt (Heap.lt_size ho)
  unfold unpackItems
  refine wpAny_bind ?_
  unfold notIterableAtAll
  refine wpAny_bind (wpAny_specialOf ht.typeIs slot_list_iter.lookup (wpAny_pure ?_))
  simp only [Bool.false_eq_true, if_false]
  refine wpAny_bind (wpAny_holding (wpAny_pyIter_list ht (wpAny_bind (wpAny_holding (PySem.W.kun_draw lt items.size 0 _ _ ⟨_, Heap.get?_push_size _ rfl, rfl, rfl⟩ (ht.push _) (by omega) fun h1 hit1 hs1 => ?_)))))
  rw [show List.take items.size (List.drop 0 items.toList) = items.toList by rw [List.drop_zero]; exact List.take_of_length_le (by simp), if_neg (by simp)]
  have hot1 : HotAt A x1 h1 := HotAt.keep (HotAt.keep hot fun o e => Heap.get?_push_of_some _ e) fun o e => hs1.extBut _ _ lx e
  refine wpAny_bind (wpAny_holding (lst_end hot1 lx hit1 ((ht.push _).extBut hs1.extBut lt) (by simp) fun h2 he2 => ?_))
  simp only [Option.isSome_none, Bool.false_eq_true, if_false]
  exact wpAny_pure (hQ h2 fun b o hb e => he2 b o hb (hs1.extBut b o hb (Heap.get?_push_of_some _ e)))
end
end Hx
namespace Hx
open PySem PySem.Spec PyProof.Rows L2 L2H HotX
/-- the exception that is handled, apart from what is walked -/
theorem hot_of {X : Cx} {pins : List (Addr × Obj)} {σ : L2.St} {H : Hp} {s : Shared} (hc : HotC X) (I : Inv X pins σ H s) : ∃ p ∈ X.pn, HotAt X.A p.1 s.heap ∧ s.heap.get? p.1 = some p.2 := by
  obtain ⟨p, ⟨hh, v1, e1, c1⟩, hp⟩ := hc
  have g := (I.pin p (List.mem_append_left _ hp)).1
  exact ⟨p, hp, ⟨hh, p.2, v1, g, e1, c1⟩, g⟩
section
variable {P : Program} {w : World} {K : PySem.W.Frag} {tg : Expr}
theorem turnT (a it : Addr) : TurnH P w K tg (Itt K a) [it] it (fun i h => h.IsTupleIter it a i) where
  mem := List.mem_singleton.mpr rfl
  obj := fun i h st b hb => by
    obtain rfl := List.mem_singleton.mp hb; obtain ⟨o, e, c, d⟩ := st
    exact ⟨o, e, fun v z => by rw [d] at z; cases z⟩
  keep := fun i h h' st k => st.at fun o e => k it (List.mem_singleton.mpr rfl) o e
  item := by
    intro X hP hw hK hc i pins s σ H E I hf st ⟨xs, x, hq, hx⟩; subst hP hw hK
    obtain ⟨its, rv, p, hz⟩ := I.tuple hq; obtain ⟨u, hu, ru⟩ := rv.get hx; obtain ⟨f0, f1, f2, f3, f4, f5⟩ := hf it (List.mem_singleton.mpr rfl)
    refine wpAny_pyNext_tuple_item st (show s.heap.IsTuple a its.toArray from p) (x := u) (by simpa using hu) fun g st1 sb => ?_
    obtain ⟨o, e, c, d⟩ := id st1
    exact ⟨u, rfl, go_of (s := { s with heap := g }) e c d (by decide) ⟨x, H, I.turned (t' := s.toks) (fun b o hb e => (sb.2 b hb).trans e) f0 f1 f3 f4 f5, ru, ⟨rfl, fun ys hy => (I.tuple_inj hy hq) ▸ hx⟩, st1, fun b hb => (hf b hb).1⟩⟩
  done := by
    intro X hP hw hK hc i pins s σ H E I hf st ⟨xs, hq, hx⟩; subst hP hw hK
    obtain ⟨its, rv, p, hz⟩ := I.tuple hq; obtain ⟨f0, f1, f2, f3, f4, f5⟩ := hf it (List.mem_singleton.mpr rfl); have hl := rv.length
    obtain ⟨q, hq1, ht, _⟩ := hot_of hc I
    exact tup_end ht (f5 q (List.mem_append_left _ hq1)) st (show s.heap.IsTuple a its.toArray from p) (by simp; omega) fun g eb => ⟨rfl, I.turned (t' := s.toks) (fun b o hb e => eb b o hb e) f0 f1 f3 f4 f5⟩
  self := fun _ _ _ _ _ st h => wpAny_pyIter_tupleiter st h
theorem turnL (a it : Addr) : TurnH P w K tg (Itl K a) [it] it (fun i h => h.IsListIter it a i) where
  mem := List.mem_singleton.mpr rfl
  obj := fun i h st b hb => by
    obtain rfl := List.mem_singleton.mp hb; obtain ⟨o, e, c, d⟩ := st
    exact ⟨o, e, fun v z => by rw [d] at z; cases z⟩
  keep := fun i h h' st k => st.at fun o e => k it (List.mem_singleton.mpr rfl) o e
  item := by
    intro X hP hw hK hc i pins s σ H E I hf st ⟨xs, x, hq, hx⟩; subst hP hw hK
    obtain ⟨its, rv, p, hz⟩ := I.list hq; obtain ⟨u, hu, ru⟩ := rv.get hx; obtain ⟨f0, f1, f2, f3, f4, f5⟩ := hf it (List.mem_singleton.mpr rfl)
    refine wpAny_pyNext_list_item st p.isList (x := u) (by simpa using hu) fun g st1 sb => ?_
    obtain ⟨o, e, c, d⟩ := id st1
    exact ⟨u, rfl, go_of (s := { s with heap := g }) e c d (by decide) ⟨x, H, I.turned (t' := s.toks) (fun b o hb e => (sb.2 b hb).trans e) f0 f1 f3 f4 f5, ru, ⟨rfl, fun ys hy => (I.list_inj hy hq) ▸ hx⟩, st1, fun b hb => (hf b hb).1⟩⟩
  done := by
    intro X hP hw hK hc i pins s σ H E I hf st ⟨xs, hq, hx⟩; subst hP hw hK
    obtain ⟨its, rv, p, hz⟩ := I.list hq; obtain ⟨f0, f1, f2, f3, f4, f5⟩ := hf it (List.mem_singleton.mpr rfl); have hl := rv.length
    obtain ⟨q, hq1, ht, _⟩ := hot_of hc I
    exact lst_end ht (f5 q (List.mem_append_left _ hq1)) st p.isList (by simp; omega) fun g eb => ⟨rfl, I.turned (t' := s.toks) (fun b o hb e => eb b o hb e) f0 f1 f3 f4 f5⟩
  self := fun _ _ _ _ _ st h => wpAny_pyIter_listiter st h
theorem turnS (it : Addr) (x : Str) (t : Tok) (ty : String) (hty : ty = "str_ascii_iterator" ∨ ty = "str_iterator") : TurnH P w K tg (Its x) [it] it (fun i h => h.IsStrIter it ty x t i) where
  mem := List.mem_singleton.mpr rfl
  obj := fun i h st b hb => by
    obtain rfl := List.mem_singleton.mp hb; obtain ⟨o, e, c, d⟩ := st
    exact ⟨o, e, fun v z => by rw [d] at z; cases z⟩
  keep := fun i h h' st k => let ⟨o, ho, r⟩ := st; ⟨o, k it (List.mem_singleton.mpr rfl) o ho, r⟩
  item := by
    intro X hP hw hK hc i pins s σ H E I hf st hg; subst hP hw hK
    obtain ⟨f0, f1, f2, f3, f4, f5⟩ := hf it (List.mem_singleton.mpr rfl)
    have hi : i < x.cps.size := hg
    rcases hty with e | e <;> subst e
    · refine wpAny_pyNext_ascii_item st (c := x.cps[i]) (by simp [hi]) fun g st1 sb => ?_
      obtain ⟨o, e, c, d⟩ := id st1
      exact ⟨_, rfl, go_of (s := { s with heap := g, toks := s.toks + 1 }) e c d (by decide) ⟨.str ⟨#[x.cps[i]]⟩, H, I.turned (t' := s.toks + 1) (fun b o hb e => (sb.2 b hb).trans e) f0 f1 f3 f4 f5, ⟨_, rfl⟩, ⟨rfl, _, by simp [hi], rfl⟩, st1, fun b hb => (hf b hb).1⟩⟩
    · refine wpAny_pyNext_wide_item st (c := x.cps[i]) (by simp [hi]) fun g st1 sb => ?_
      obtain ⟨o, e, c, d⟩ := id st1
      exact ⟨_, rfl, go_of (s := { s with heap := g, toks := s.toks + 1 }) e c d (by decide) ⟨.str ⟨#[x.cps[i]]⟩, H, I.turned (t' := s.toks + 1) (fun b o hb e => (sb.2 b hb).trans e) f0 f1 f3 f4 f5, ⟨_, rfl⟩, ⟨rfl, _, by simp [hi], rfl⟩, st1, fun b hb => (hf b hb).1⟩⟩
  done := by
    intro X hP hw hK hc i pins s σ H E I hf st hg; subst hP hw hK
    obtain ⟨f0, f1, f2, f3, f4, f5⟩ := hf it (List.mem_singleton.mpr rfl)
    obtain ⟨q, hq1, ht, _⟩ := hot_of hc I
    have hx : x.cps[i]? = none := Array.getElem?_eq_none hg
    rcases hty with e | e <;> subst e
    · exact asc_end ht (f5 q (List.mem_append_left _ hq1)) st hx fun g eb => ⟨rfl, I.turned (t' := s.toks) (fun b o hb e => eb b o hb e) f0 f1 f3 f4 f5⟩
    · exact wid_end ht (f5 q (List.mem_append_left _ hq1)) st hx fun g eb => ⟨rfl, I.turned (t' := s.toks) (fun b o hb e => eb b o hb e) f0 f1 f3 f4 f5⟩
  self := fun A i s Q E st h => by
    rcases hty with e | e <;> subst e
    · exact wpAny_pyIter_striter_ascii st h
    · exact wpAny_pyIter_striter_wide st h
end
section
variable {X : Cx} {tg : Expr}
theorem one_itH {pins : List (Addr × Obj)} {σ : L2.St} {H : Hp} {s : Shared} {R : It → Hp → Prop} {J : It} {tn : Nat → Heap → Prop} {tk : Nat} {o : Obj} (I : Inv X pins σ H s) (T : TurnH X.prog X.w X.K tg J [s.heap.objs.size] s.heap.objs.size tn) (h0 : tn 0 (s.heap.push o)) (q : R J H) :
    PIEH X pins σ tg R (.ref s.heap.objs.size) { s with heap := s.heap.push o, toks := tk } :=
  ⟨s.heap.objs.size, [s.heap.objs.size], tn, J, H, rfl, I.kept (t' := tk) fun _ _ e => Heap.get?_push_of_some _ e, T, h0, fun b hb => by
    obtain rfl := List.mem_singleton.mp hb
    exact I.fpOk (Nat.le_refl _) (I.hok.fresh (Nat.le_refl _)), q⟩
theorem pi_anyH {l : Expr} {tl : TE} (hl : PE X l tl) : PIH X tg l (Mr.iAny X.K tl) := by
  refine ⟨fun pins s σ H R I h => ?_⟩
  refine thn (hl.run pins s σ H _ I h) fun v s1 ⟨x, H1, I1, r1, q1⟩ => ?_
  rcases q1 with ⟨a, xs, rfl, hq, q⟩ | ⟨a, xs, rfl, hq, q⟩ | ⟨z, rfl, q⟩
  · cases r1
    obtain ⟨its, _, p, _⟩ := I1.list hq
    exact wpAny_pyIter_list p.isList (one_itH (tk := s1.toks) I1 (turnL a _) ⟨_, Heap.get?_push_size _ rfl, rfl, rfl⟩ q)
  · cases r1
    obtain ⟨its, _, p, _⟩ := I1.tuple hq
    exact wpAny_pyIter_tuple (show s1.heap.IsTuple a its.toArray from p) (one_itH (tk := s1.toks) I1 (turnT a _) ⟨_, Heap.get?_push_size _ rfl, rfl, rfl⟩ q)
  · obtain ⟨t, rfl⟩ := r1
    cases ha : z.cps.all (· < 128) with
    | false => exact wpAny_pyIter_wide ha (one_itH (tk := s1.toks) I1 (turnS _ z t "str_iterator" (.inr rfl)) ⟨_, Heap.get?_push_size _ rfl, rfl, rfl⟩ q)
    | true => exact wpAny_pyIter_ascii ha (one_itH (tk := s1.toks) I1 (turnS _ z t "str_ascii_iterator" (.inl rfl)) ⟨_, Heap.get?_push_size _ rfl, rfl, rfl⟩ q)
theorem pi_range2H {a b : Expr} {ta : TA} {p pos : Pos} (hg : Gl X "range") (hm : X.mg "range" = none) (ha : PA X [a, b] ta) (hs : starEach [a, b] X.env = [(false, eval a X.env), (false, eval b X.env)] := by rfl) (hs2 : starEach [b] X.env = [(false, eval b X.env)] := by rfl) :
    PIH X tg (.Call (.Name "range" p) [a, b] [] pos) (iRng2 ta) := by
  refine ⟨fun pins s σ H R I h => Call_ (ld_blt I hg hm boot_range (PyProof.Rows.callWith_type1 (thn (ha.run pos pins s σ H _ I h) fun us s1 ⟨vs, H1, I1, r1, q1⟩ => ?_) (by rw [hs, hs2]) (by rw [hs2]; rfl)))⟩
  obtain ⟨i, j, e, ⟨q1, q2, q3, q4⟩, q⟩ := q1
  subst e
  cases r1 with
  | cons r rr => cases rr with
    | cons r2 rr => cases rr; obtain ⟨t, rfl⟩ := r; obtain ⟨t', rfl⟩ := r2; exact call_range_2 (range_itH I1 q1 q2 q3 q4 q)
/-- (a, b, ..) = a tuple, a list of that length -/
theorem pg_tupH {es : List Expr} {k : Nat} {t : TGs} {n : Nat} {pos : Pos} (hc : HotC X) (h : PGs X es t)
    (hn : (assignEach es X.env).length = n := by rfl) (hst : (assignEach es X.env).findIdx? (·.1) = none := by rfl) : PG X (.Tuple es k pos) (gTup X.K n t) := by
  refine ⟨fun pins s σ H v u Q I r ⟨a, xs, e1, hq, hl, hw⟩ => ?_⟩
  subst e1; cases r
  obtain ⟨its, rv, ht, hz⟩ := I.tuple hq
  obtain ⟨p, hp, hot, _⟩ := hot_of hc I
  rw [PyProof.Rows.assign_Tuple]
  refine wpAny_bind (wpAny_standAt ?_)
  unfold unpack
  rw [hn.trans (hl.symm.trans (rv.length.trans (by simp : its.length = its.toArray.size))), hst]
  refine wpAny_bind (wpAny_holding (unpackH hot (show s.heap.IsTuple a its.toArray from ht) fun g hx => ?_))
  exact h.run pins _ σ H xs _ Q (I.kept (t' := s.toks) fun b o e => hx b o (Nat.ne_of_lt (Heap.lt_size e)) e) (by simpa using rv) hw
theorem pg_unlH {es : List Expr} {k : Nat} {t : TGs} {n : Nat} {pos : Pos} (hc : HotC X) (h : PGs X es t)
    (hn : (assignEach es X.env).length = n := by rfl) (hst : (assignEach es X.env).findIdx? (·.1) = none := by rfl) : PG X (.Tuple es k pos) (gUnl X.K n t) := by
  refine ⟨fun pins s σ H v u Q I r ⟨a, xs, e1, hq, hl, hw⟩ => ?_⟩
  subst e1; cases r
  obtain ⟨its, rv, ht, hz⟩ := I.list hq
  obtain ⟨p, hp, hot, _⟩ := hot_of hc I
  rw [PyProof.Rows.assign_Tuple]
  refine wpAny_bind (wpAny_standAt ?_)
  unfold unpack
  rw [hn.trans (hl.symm.trans (rv.length.trans (by simp : its.length = its.toArray.size))), hst]
  refine wpAny_bind (wpAny_holding (unpackLH hot ht.isList fun g hx => ?_))
  exact h.run pins _ σ H xs _ Q (I.kept (t' := s.toks) fun b o e => hx b o (Nat.ne_of_lt (Heap.lt_size e)) e) (by simpa using rv) hw
end
/-- a comprehension's block while an exception is handled -/
abbrev blkH (X : Cx) (s : Shared) (H : Hp) (scope : Scope) (ce : Env) (fp : List Addr) : Cx := { X.blk s H scope ce fp with pn := X.pn }
section
variable {X : Cx}
theorem inv_blkH {s0 : Shared} {H0 : Hp} {scope : Scope} {ce : Env} {fp : List Addr} {pins : List (Addr × Obj)} {σ : L2.St} {H : Hp} {s : Shared} (I : Inv (X.blk s0 H0 scope ce fp) [] σ H s)
    (hp : ∀ p ∈ X.pn ++ pins, s.heap.get? p.1 = some p.2 ∧ H p.1 = none ∧ p.1 ≠ ce.locals ∧ p.1 ∉ frs X.stack ∧ ∀ v, p.2.data ≠ .cell v) : Inv (blkH X s0 H0 scope ce fp) pins σ H s :=
  let o := I.ok
  ⟨⟨o.mod, o.kind, o.glob, o.blt, o.above, o.inj, o.has, o.cab, o.hd, o.frames, o.stk, o.exf, o.bs, o.bsz, o.noex, o.exfs, o.funs, o.frf⟩, I.os, I.bare, I.base, I.loc, I.cell, I.free, I.freeC, hp, I.hok, I.len⟩
theorem pe_lcH {elt tg iter : Expr} {ifs : List Expr} {scope : Scope} {own : List (Str × Nat)} {pos : Pos} {wi : TI} {g : TG} {tt : TT} {te : TE} (hc : HotC X) (hN : X.N.Nodup) (hi : PIH X tg iter wi) (ok : BlkOk X.N X.env.scope scope own)
    (hg : ∀ (s : Shared) (H : Hp) (C : Addr) (cl : List (Str × Addr)) (fp : List Addr), PG (blkH X s H scope (compEnvC scope cl C X.env) fp) tg g) (ht : ∀ (s : Shared) (H : Hp) (C : Addr) (cl : List (Str × Addr)) (fp : List Addr), PTs (blkH X s H scope (compEnvC scope cl C X.env) fp) ifs tt)
    (he : ∀ (s : Shared) (H : Hp) (C : Addr) (cl : List (Str × Addr)) (fp : List Addr), PE (blkH X s H scope (compEnvC scope cl C X.env) fp) elt te) (hs : ∀ x, foldedSetIterable iter X.env x = pure x := by intro _; rfl) :
    PE X (.ListComp elt [⟨tg, iter, ifs, 0⟩] scope pos) (tLc wi g tt te (own.map (·.2))) := by
  refine ⟨fun pins s σ H Q I h => ?_⟩
  rw [eval_ListComp]
  have seen : ∀ y ∈ scope.names, y.2 = .free → ∃ c, X.env.cells.lookup y.1 = some c := fun y hy e => (ok.free y hy e).elim (fun k => I.ok.has _ (.inl k)) fun k => I.ok.has _ (.inr k)
  refine wpAny_comprehension_free rfl hs (closure_ok seen) ok.kind (fun y hy e => (ok.uniq y hy).trans (congrArg some e)) (thn (hi.run pins s σ H _ I h) fun xv s1 hx => thn hx fun itv s2 ⟨it, fp, tn, J, H2, e, I2, T, st2, f2, q⟩ => ?_)
  subst e
  refine wpAny_newObj_type (newEnv_comp ?_) (Nat.zero_le _)
  obtain ⟨L, hL⟩ : ∃ L : Addr, L = s2.heap.objs.size := ⟨_, rfl⟩
  have nL : H2 L = none := I2.hok.fresh (Nat.le_of_eq hL.symm)
  obtain ⟨V, ⟨m0, w0⟩, turn⟩ := q L nL
  obtain ⟨s3, hs3⟩ : ∃ s3 : Shared, s3 = { s2 with heap := s2.heap.push { cls := .type "list", data := .seq ([] : List Value).toArray } } := ⟨_, rfl⟩
  rw [← hL, ← hs3]
  have h3 : s3.heap = s2.heap.push { cls := .type "list", data := .seq ([] : List Value).toArray } := by rw [hs3]
  have I3 : Inv X pins σ (upd H2 L (.lst [])) s3 := by
    rw [hs3]
    exact I2.laid (t' := s2.toks) (fun b o e => Heap.get?_push_of_some _ e) (Nat.le_of_eq hL.symm) ⟨Nat.zero_le _, [], 0, .nil, by rw [hL]; exact Heap.get?_push_size _ rfl⟩
  have f3 : ∀ b ∈ fp, FpOk X pins (upd H2 L (.lst [])) b ∧ b < s3.heap.objs.size := fun b hb => by
    obtain ⟨o, e, _⟩ := T.obj _ _ st2 b hb
    have lb := Heap.lt_size e
    exact ⟨⟨(upd_ne (Nat.ne_of_lt (hL ▸ lb))).trans (f2 b hb).1, (f2 b hb).2⟩, by rw [h3, Heap.size_push]; exact Nat.lt_succ_of_lt lb⟩
  have st3 : tn 0 s3.heap := T.keep _ _ _ st2 fun b _ o e => by rw [h3]; exact Heap.get?_push_of_some _ e
  have I4 := block_start I3 ok hN f3
  have pg := hg s3 (upd H2 L (.lst [])) s3.heap.objs.size (cellsFrom (s3.heap.objs.size + 1) scope.names (cloFrom X.env.cells scope.names [])) fp
  have pt := ht s3 (upd H2 L (.lst [])) s3.heap.objs.size (cellsFrom (s3.heap.objs.size + 1) scope.names (cloFrom X.env.cells scope.names [])) fp
  have pe := he s3 (upd H2 L (.lst [])) s3.heap.objs.size (cellsFrom (s3.heap.objs.size + 1) scope.names (cloFrom X.env.cells scope.names [])) fp
  show codeAny _ _ (.compStart (.ListComp elt [⟨tg, iter, ifs, 0⟩] scope pos) 0 (.ref it) (.ref L) (compEnvC scope (cellsFrom (s3.heap.objs.size + 1) scope.names (cloFrom X.env.cells scope.names [])) s3.heap.objs.size X.env)) _ { s3 with heap := pushCells (s3.heap.push { cls := .type "dict", data := .dict #[] }) scope.names }
  have nfp : ∀ b ∈ fp, (upd H2 L (.lst [])) b = none := fun b hb => (f3 b hb).1.1
  have pin3 := I3.pin
  have stk3 : ∀ p ∈ X.pn ++ pins, p.1 ∉ frs X.stack := fun p hp hm => (List.mem_cons.mp (I3.stkSub p.1 hm)).elim (pin3 p hp).2.2.1 (pin3 p hp).2.2.2.1
  have new3 : ∀ p ∈ X.pn ++ pins, p.1 ≠ s3.heap.objs.size := fun p hp => Nat.ne_of_lt (Heap.lt_size (pin3 p hp).1)
  generalize hce : compEnvC scope (cellsFrom (s3.heap.objs.size + 1) scope.names (cloFrom X.env.cells scope.names [])) s3.heap.objs.size X.env = ce at I4 pg pt pe ⊢
  have cL : ce.locals = s3.heap.objs.size := by subst hce; rfl
  generalize hH3 : upd H2 L (.lst []) = H3 at I3 I4 pg pt pe w0 nfp f3 pin3
  generalize hs4 : ({ s3 with heap := pushCells (s3.heap.push { cls := .type "dict", data := .dict #[] }) scope.names } : Shared) = s4 at I4 ⊢
  have kp4 : ∀ b o, s3.heap.get? b = some o → s4.heap.get? b = some o := fun b o e => by rw [← hs4]; exact pushCells_keeps _ _ _ _ (Heap.get?_push_of_some _ e)
  have st4 : tn 0 s4.heap := T.keep _ _ _ st3 fun b _ o e => kp4 b o e
  have I5 : Inv (blkH X s3 H3 scope ce fp) [] (wipe σ (own.map (·.2))) H3 s4 := inv_blkH I4 fun p hp => by
    have hp : p ∈ X.pn := by simpa using hp
    have z := pin3 p (List.mem_append_left _ hp)
    exact ⟨kp4 _ _ z.1, z.2.1, by rw [cL]; exact new3 p (List.mem_append_left _ hp), stk3 p (List.mem_append_left _ hp), z.2.2.2.2⟩
  have stat : ∀ {τ : L2.St} {H' : Hp} {t : Shared}, Inv (blkH X s3 H3 scope ce fp) [] τ H' t → (∀ b ∈ fp, H' b = none) → ∀ b ∈ fp, FpOk (blkH X s3 H3 scope ce fp) [] H' b := fun {τ H' t} J hn b hb =>
    ⟨hn b hb, (J.ok.exf b hb).1, J.ok.exfs b hb, .inl hb, fun x c e => (J.ok.exf b hb).2 x c e, fun p hp => (f3 b hb).1.2.2.2.2.2 p (List.mem_append_left _ (by simpa using hp))⟩
  have hcB : HotC (blkH X s3 H3 scope ce fp) := hc
  have loop : codeAny (model X.prog X.w) X.A (.compLoop (.ListComp elt [⟨tg, iter, ifs, 0⟩] scope pos) 0 (.ref it) (.ref L) ce) (compPost (model X.prog X.w) X.A X.xe none (EP X pins σ Q) (.ref L) s3.heap.objs.size) s4 := by
    refine compLoop_any (fun n t => ∃ i H', Inv (blkH X s3 H3 scope ce fp) [] (wipe σ (own.map (·.2))) H' t ∧ tn i t.heap ∧ (∀ b ∈ fp, H' b = none) ∧ V i n H') ?_ m0 ⟨0, H3, I5, st4, nfp, w0⟩
    rintro n t5 ⟨i, H5, J5, st5, n5, w5⟩
    rcases turn i n H5 w5 with ⟨stop, qq⟩ | ⟨go, Nx, hNx, step⟩
    · refine thnF (T.done (blkH X s3 H3 scope ce fp) rfl rfl rfl hcB i [] t5 _ H5 (fun _ _ => False) J5 (stat J5 n5) st5 stop) fun r t6 ⟨hr, J6⟩ => ?_
      subst hr
      have I7 : Inv X pins σ H5 t6 := I3.call' (ch := fp) J6.os J6.base J6.hok J6.bare fun b hb => ⟨(f3 b hb).1.2.2.2.1, (f3 b hb).1.2.1, (f3 b hb).1.2.2.2.2.1, (f3 b hb).1.2.2.2.2.2⟩
      have nC : H5 s3.heap.objs.size = none := cL ▸ (show H5 ce.locals = none from J6.free)
      obtain ⟨m, hn, _⟩ := J6.loc
      have hn : t6.heap.Ns ce.locals m := hn
      rw [cL] at hn
      refine ⟨m, hn, fun h'' sb => ?_⟩
      obtain ⟨g0, g1, g2, g3, g4, g5⟩ := I3.fpOk (Nat.le_refl _) nC
      exact ⟨.ref L, H5, I7.turned (t' := t6.toks) (fun b o hb e => (sb.2 b hb).trans e) g0 g1 g3 g4 g5, rfl, qq⟩
    · refine thnF (T.item (blkH X s3 H3 scope ce fp) rfl rfl rfl hcB i [] t5 _ H5 (fun _ _ => False) J5 (stat J5 n5) st5 go) fun r t6 ⟨u, hr, h6⟩ => ?_
      subst hr
      refine thnF h6 fun _ t7 ⟨x, H7, J7, r7, y7, st7, n7⟩ => ?_
      have P7 := J7.pinned (stat J7 n7) (T.obj _ _ st7)
      refine thnF (pg.run _ t7 _ H7 x u _ P7 r7 (step x H7 y7)) fun _ t8 ⟨σ8, H8, J8, hw8, q8⟩ => ?_
      refine thnF (pt.run _ t8 σ8 H8 _ J8 q8) fun b t9 ⟨H9, J9, q9⟩ => ?_
      have fin : ∀ {t : Shared} {H' : Hp}, Inv (blkH X s3 H3 scope ce fp) ([] ++ pinsAt fp t7.heap) σ8 H' t → Nx H' → ∃ m, m < n ∧ ∃ i H', Inv (blkH X s3 H3 scope ce fp) [] (wipe σ (own.map (·.2))) H' t ∧ tn i t.heap ∧ (∀ b ∈ fp, H' b = none) ∧ V i m H' := fun {t H'} J nx => by
        obtain ⟨k, hk, wk⟩ := hNx H' nx
        have there : ∀ b ∈ fp, ∀ o, t7.heap.get? b = some o → t.heap.get? b = some o ∧ H' b = none := fun b hb o e =>
          let z := J.pin (b, o) (List.mem_append_right _ (List.mem_append_right _ (mem_pinsAt hb e))); ⟨z.1, z.2.1⟩
        refine ⟨k, hk, i + 1, H', (J.unpinned (pins := [])).weak (by rw [← hw8, wipe_length]) (fun j v e => (wipe_some (hw8 ▸ e)).1), T.keep _ _ _ st7 fun b hb o e => (there b hb o e).1, fun b hb => ?_, wk⟩
        obtain ⟨o, e, _⟩ := T.obj _ _ st7 b hb
        exact (there b hb o e).2
      cases b with
      | false => simp only [Bool.false_eq_true, if_false] at q9 ⊢; exact fin J9 q9
      | true =>
        simp only [if_true] at q9 ⊢
        refine thnF (pe.run _ t9 σ8 H9 _ J9 q9) fun z t10 ⟨yv, H10, J10, r10, acc, a1, a2, nx⟩ => app_ok (X := blkH X s3 H3 scope ce fp) J10 a1 a2 r10 fun t11 J11 => fin J11 nx
  exact codeAny_compStart_list loop (T.self X.A 0 _ _ _ st4 loop)
end
end Hx
namespace Mr
open PySem PySem.Spec PyProof.Rows L2 Hx L2H
/-- room, and nothing whose text is being made -/
structure RoomGH (k : Nat) (A : Around) : Prop where
  r : RoomH k A
  g : A.guards = some []
section
variable {k j : Nat} {A : Around}
theorem RoomGH.mono (q : RoomGH k A) (h : j ≤ k) : RoomGH j A := ⟨q.r.mono h, q.g⟩
theorem RoomGH.units (q : RoomGH k A) : A.units + 64 < cLine := by have := q.r.un; omega
theorem RoomGH.deeper (q : RoomGH (k + 1) A) (env : Env) : RoomGH k (A.deeper env) := ⟨q.r.deeper env, guards_deeper.trans q.g⟩
theorem under_parts {C : Addr} {us : List Value} {kw : List (Str × Value)} : (A.under (.builtin "type.__call__" ⟨.ref C :: us, kw⟩)).depth = A.depth + 1 ∧ (A.under (.builtin "type.__call__" ⟨.ref C :: us, kw⟩)).units = A.units + 1 ∧ (A.under (.builtin "type.__call__" ⟨.ref C :: us, kw⟩)).handled = A.handled := by
  cases A with
  | mk a b c d e => cases d <;> first | exact ⟨rfl, rfl, rfl⟩ | simp [Around.under]
theorem RoomGH.make (q : RoomGH (k + 1) A) (C : Addr) (us : List Value) (kw : List (Str × Value)) : RoomGH k (A.under (.builtin "type.__call__" ⟨.ref C :: us, kw⟩)) := by
  obtain ⟨e1, e2, _⟩ := under_parts (A := A) (C := C) (us := us) (kw := kw)
  exact ⟨⟨by have := q.r.dp; omega, by have := q.r.un; omega⟩, guards_make.trans q.g⟩
theorem hot1_make {p : Addr × Obj} (h : Hot1 A p) (C : Addr) (us : List Value) (kw : List (Str × Value)) : Hot1 (A.under (.builtin "type.__call__" ⟨.ref C :: us, kw⟩)) p := ⟨(under_parts (A := A)).2.2.trans h.1, h.2⟩
theorem RoomGH.in1 (q : RoomGH (k + 1) A) : RoomGH k A.in1 := ⟨⟨by have := q.r.dp; show A.depth + 3 * k + 5 < _; omega, by have := q.r.un; show A.units + 1 + 16 * k + 200 < _; omega⟩, q.g⟩
theorem RoomG.hot {a : Value} (q : RoomG k A) : RoomGH k (A.mark (some a)) := ⟨⟨q.r.dp, q.r.un⟩, q.g⟩
end
/-- the promise of the def at f while an exception is handled -/
structure FnGH (P : Program) (w : World) (K : PySem.W.Frag) (mg : Str → Option Value) (base : Heap) (k : Nat) (f : Addr) (fd : FuncData) (ps : List Str) (sp : Sp) : Prop where
  len : ∀ vs H Q E, sp vs H Q E → vs.length = ps.length
  run : ∀ (A : Around) (fr : List Env) (s : Shared) (H : Hp) (gv : Args) (us : List Value) (vs : List V) (Q : VK) (E : XK) (p : Addr × Obj), RoomGH k A → Hot1 A p → PinOk fr H s p → Env0 P w K mg base A fr s H → BindsTo s fd gv (ps.zip us) → Vals vs us → sp vs H Q E →
    codeAny (model P w) A (.call (.ref f) gv) (CR (L2N.CX P w) fr P w H s Q E) s
/-- the exception that is handled stands out of reach -/
theorem pinOk_of {X : Cx} {pins : List (Addr × Obj)} {σ : L2.St} {H : Hp} {s : Shared} (hc : HotC X) (I : Inv X pins σ H s) : ∃ p, Hot1 X.A p ∧ PinOk X.stack H s p := by
  obtain ⟨p, hot, hp⟩ := hc
  have P1 := I.pin p (List.mem_append_left _ hp)
  exact ⟨p, hot, P1.1, P1.2.1, fun hm => (List.mem_cons.mp (I.stkSub p.1 hm)).elim P1.2.2.1 P1.2.2.2.1, P1.2.2.2.2⟩
theorem hotC_suite {X : Cx} {a : Addr} {oe : Obj} {k : Value} {d : Option Addr} {pn : List (Addr × Obj)} (hz : L2N.Zn k d oe) (hf : ∃ vs, oe.data = .fields vs) : HotC (X.suite a ((a, oe) :: pn)) := by
  obtain ⟨vs, e⟩ := hf
  exact ⟨(a, oe), ⟨rfl, vs, e, hz.2.2 vs e⟩, List.mem_cons_self ..⟩

section
variable {P : Program} {w : World} {K : PySem.W.Frag} {mg : Str → Option Value} {base : Heap}
theorem FnGH.mono {j k : Nat} {f : Addr} {fd : FuncData} {ps : List Str} {sp : Sp} (F : FnGH P w K mg base j f fd ps sp) (h : j ≤ k) : FnGH P w K mg base k f fd ps sp :=
  ⟨F.len, fun A fr s H gv us vs Q E p q => F.run A fr s H gv us vs Q E p (q.mono h)⟩
theorem fngH_of {x qual : Str} {params : Arguments} {body : List Stmt} {scope : Scope} {dvs : List V} {kws : List (Str × V)} {f : Addr} {fd : FuncData} {N ps : List Str} {k : Nat} {sp : Sp} (F : FunD K x qual params body scope dvs kws f fd) (S : FnScope N ps scope)
    (len : ∀ vs H Q E, sp vs H Q E → vs.length = ps.length)
    (hb : ∀ (cdv : Value) (_ : codV K f = cdv) (A : Around) (fr : List Env) (s : Shared) (H : Hp) (vs : List V) (Q : VK) (E : XK) (p : Addr × Obj), Hot1 A p → RoomGH k (A.deeper (envOfC qual scope s.heap.objs.size f cdv)) → sp vs H Q E →
      ∃ t, PSs (cxH (L2N.CX P w) P w K mg base N qual scope f cdv A fr s H E p) body t ∧ t { nx := fun _ H' => Q .non H', rt := Q } (L2.start N vs) H) : FnGH P w K mg base (k + 1) f fd ps sp := by
  obtain ⟨oc, od, dV, kV, doc, pm, an, cdv, ct, osl, rfl, at_f, code_f, _, _⟩ := F.ex
  refine ⟨len, fun A fr s H gv us vs Q E p room hot hpin e0 bind rel hs => ?_⟩
  have hl := len _ _ _ _ hs
  have inK : K.In s.heap := e0.mod.kin.keeps fun b o e => (e0.bs b o e).1
  have nl : s.heap.NoLimit := e0.mod.nolimit.keeps fun b o e => (e0.bs b o e).1
  have kinds : ∀ y ∈ ps.zip us, scope.names.lookup y.1 = some .local ∨ (scope.names.lookup y.1 = some .cell ∧ ((cellsFrom (s.heap.objs.size + 1) scope.names []).lookup y.1).isSome = true) := by
    rintro ⟨n, v⟩ hy
    cases S.par n (List.of_mem_zip hy).1 with
    | inl q => exact .inl q
    | inr q => exact .inr ⟨q, PySem.W.cellsFrom_some _ _ _ (.inl q)⟩
  refine codeAny_call_function (L2H.RoomH.depth room.r) (inK _ _ at_f) rfl S.co S.gen rfl (PySem.W.codeRec_of inK code_f) (bind _ _ _ _ (wpAny_newFunctionEnv_cells S.kind kinds fun env he s1 x => ?_))
  subst he
  refine ⟨nl.keeps x.toInCall.keep, codeAny_func ?_⟩
  obtain ⟨t, ht, q⟩ := hb cdv (by unfold codV; rw [at_f]) A fr s H vs Q E p hot (room.deeper _) hs
  have I1 : Inv (cxH (L2N.CX P w) P w K mg base N qual scope f cdv A fr s H E p) [] (L2.start N vs) H s1 := inv_startH S hpin e0 hl rel x
  refine wpAny_mono (ht.run [] s1 (L2.start N vs) H _ I1 q) (fun fl s2 h2 => ?_) fun _ _ h => h
  cases fl with
  | ret u =>
    obtain ⟨v, _, H', J, rv, z⟩ := h2
    exact ⟨v, H', J.os, J.bare, J.base, J.hok, rv, z⟩
  | next =>
    obtain ⟨_, H', J, z⟩ := h2
    exact ⟨V.non, H', J.os, J.bare, J.base, J.hok, rfl, z⟩
  | brk => exact h2.choose_spec.choose_spec.2.elim
  | cont => exact h2.choose_spec.choose_spec.2.elim
end
variable [Lam]

section
variable {P : Program} {w : World} {K : PySem.W.Frag} {mg : Str → Option Value} {base : Heap}

theorem fn_valH {x qual : Str} {params : Arguments} {body : List Stmt} {scope : Scope} {dvs : List V} {kws : List (Str × V)} {f : Addr} {fd : FuncData} {N ps : List Str} {k n : Nat} {g : M Fl} (Fn : FunD K x qual params body scope dvs kws f fd) (S : FnScope N ps scope) (hn : n = ps.length)
    (hb : ∀ (cdv : Value) (_ : codV K f = cdv) (A : Around) (outer : List Env) (s : Shared) (H : Hp) (E : XK) (p : Addr × Obj), Hot1 A p → RoomGH k (A.deeper (envOfC qual scope s.heap.objs.size f cdv)) →
      AB (cxH (L2N.CX P w) P w K mg base N qual scope f cdv A outer s H E p) (fun c d _ H => E c d H) body g) :
    FnGH P w K mg base (k + 1) f fd ps (PSp K n (runF N.length g)) := by
  refine fngH_of Fn S (fun vs H Q E h => h.1.trans hn) fun cdv hcd A outer s H vs Q E p hot hr h => ?_
  obtain ⟨hl, F, ds, sF, r, hg⟩ := h
  obtain ⟨t, ht, q⟩ := hb cdv hcd A outer s H E p hot hr
  refine ⟨t, ht, q ⟨H, F, [], []⟩ _ H F _ _ (stt_start sF r) ?_⟩
  unfold runF at hg
  have aft : ∀ {σ' : St} {H' F' : Hp} {ρ : Ro}, Stt K ⟨H, F, [], []⟩ σ' H' F' ρ → Aft K H F H' F' := fun S => ⟨⟨fun a o e n => S.same a o e (fun i z => by simp at z) n, fun _ => S.tb⟩, S.sub, S.ext, S.new, fun _ => S.ft⟩
  cases e : g (ds.map SV.val ++ List.replicate (N.length - ds.length) SV.un) with
  | ok a ρ =>
    rw [e] at hg
    cases a with
    | nx => exact fun σ' H' F' S q => hg .non H' F' (aft S) .non
    | rt d => exact fun v σ' H' F' S q rv => hg v H' F' (aft S) rv
    | rn ds => exact hg.elim
    | bk => exact hg.elim
    | ct => exact hg.elim
  | exc x ρ =>
    rw [e] at hg
    exact fun d σ' H' F' S q rv => hg d H' F' (aft S) rv
  | stuck => rw [e] at hg; exact hg

theorem fn_ioH {x qual : Str} {params : Arguments} {body : List Stmt} {scope : Scope} {dvs : List V} {kws : List (Str × V)} {f : Addr} {fd : FuncData} {N ps : List Str} {k n : Nat} {g : M Fl} (Fn : FunD K x qual params body scope dvs kws f fd) (S : FnScope N ps scope) (hn : n + 1 = ps.length)
    (hb : ∀ (cdv : Value) (_ : codV K f = cdv) (A : Around) (outer : List Env) (s : Shared) (H : Hp) (E : XK) (p : Addr × Obj), Hot1 A p → RoomGH k (A.deeper (envOfC qual scope s.heap.objs.size f cdv)) →
      AB (cxH (L2N.CX P w) P w K mg base N qual scope f cdv A outer s H E p) (fun c d _ H => E c d H) body g) :
    FnGH P w K mg base (k + 1) f fd ps (ISp K n (runI N.length g)) := by
  refine fngH_of Fn S (fun vs H Q E h => h.1.trans hn) fun cdv hcd A outer s H vs Q E p hot hr h => ?_
  obtain ⟨hl, F, a, ws, sv, ds, rfl, sF, qs, hio, r, hg⟩ := h
  obtain ⟨t, ht, q⟩ := hb cdv hcd A outer s H E p hot hr
  refine ⟨t, ht, q ⟨H, F, [(0, a)], []⟩ _ H F _ _ (stt_startI sF qs hio r) ?_⟩
  unfold runI at hg
  have aft : ∀ {σ' : St} {H' F' : Hp} {ρ : Ro}, Stt K ⟨H, F, [(0, a)], []⟩ σ' H' F' ρ → AftIo K a (ρ.getD 0 .un) H F H' F' := fun {σ' H' F' ρ} S => by
    obtain ⟨e1, e2⟩ := S.io 0 a (by simp)
    refine ⟨⟨fun b o ne e n => S.same b o e (fun i z => ne ?_) n, fun _ => S.tb⟩, S.sub, S.ext, S.new, fun _ => S.ft, ?_, e2⟩
    · have : (i, b) = (0, a) := by simpa using z
      cases this; rfl
    · have q := S.at_ 0
      rw [e1] at q; exact q
  cases e : g (sv :: ds.map SV.val ++ List.replicate (N.length - (ds.length + 1)) SV.un) with
  | ok a ρ =>
    rw [e] at hg
    cases a with
    | nx => exact fun σ' H' F' S q => hg .non H' F' (aft S) .non
    | rt d => exact fun v σ' H' F' S q rv => hg v H' F' (aft S) rv
    | rn ds => exact hg.elim
    | bk => exact hg.elim
    | ct => exact hg.elim
  | exc x ρ =>
    rw [e] at hg
    exact fun d σ' H' F' S q rv => hg d H' F' (aft S) rv
  | stuck => rw [e] at hg; exact hg

end
variable [Pins]

def AIH (X : Cx) (W : WX) (tg it : Expr) (f : M (List D)) : Prop :=
  ∃ wi, PIH X tg it wi ∧ ∀ G σ H F ρ R, Stt X.K G σ H F ρ → Good X.K G W σ F (f ρ) (fun ds _ H' F' => ∀ J, ItOk X.K J F' ds → R J H') → wi σ H R
section
variable {X : Cx} {W : WX} {tg e e2 : Expr} {fe : M D} {fs : M (List D)} {p pos : Pos}

theorem AIH.any (h : AE X W e fe) : AIH X W tg e (mWalk fe) := by
  obtain ⟨t, pe, qe⟩ := h
  refine ⟨_, pi_anyH pe, fun G σ H F ρ R S hg => qe G σ H F ρ _ S (hg.bind fun d ρ1 H1 F1 S1 s1 g1 v r1 => ?_)⟩
  cases r1 with
  | lst hx rx => exact .inl ⟨_, _, rfl, .of (S1.sub _ _ hx), g1 H1 F1 S1 Sm.refl _ (okL (.of hx) rx)⟩
  | frz hx rx => exact .inl ⟨_, _, rfl, SqLm S1.sub hx, g1 H1 F1 S1 Sm.refl _ (okL hx rx)⟩
  | tup hx rx => exact .inr (.inl ⟨_, _, rfl, SqTm S1.sub hx, g1 H1 F1 S1 Sm.refl _ (okT hx rx)⟩)
  | str z => exact .inr (.inr ⟨z, rfl, g1 H1 F1 S1 Sm.refl _ okS⟩)
  | _ => exact g1.elim

theorem AIH.range1 (hg : Gl X "range") (hm : X.mg "range" = none) (ha : AA X W [e] fs) (hs : starEach [e] X.env = [(false, eval e X.env)] := by rfl) : AIH X W tg (.Call (.Name "range" p) [e] [] pos) (mItL range1D fs) := by
  obtain ⟨t, pa, qa⟩ := ha
  refine ⟨_, pi_range1H hg hm pa hs, fun G σ H F ρ R S hgd => qa G σ H F ρ _ S (hgd.bind fun ds ρ1 H1 F1 S1 s1 g1 vs r1 => ?_)⟩
  unfold range1D at g1
  split at g1
  · split at g1
    · rename_i hz
      obtain ⟨v, rfl, rv⟩ := reps1 r1
      cases rv
      exact ⟨_, rfl, hz.1, hz.2, g1 H1 F1 S1 Sm.refl _ (by simpa using okR (lo := 0))⟩
    · exact g1.elim
  · exact g1.elim

theorem AIH.range2 (hg : Gl X "range") (hm : X.mg "range" = none) (ha : AA X W [e, e2] fs) (hs : starEach [e, e2] X.env = [(false, eval e X.env), (false, eval e2 X.env)] := by rfl) (hs2 : starEach [e2] X.env = [(false, eval e2 X.env)] := by rfl) :
    AIH X W tg (.Call (.Name "range" p) [e, e2] [] pos) (mItL range2D fs) := by
  obtain ⟨t, pa, qa⟩ := ha
  refine ⟨_, pi_range2H hg hm pa hs hs2, fun G σ H F ρ R S hgd => qa G σ H F ρ _ S (hgd.bind fun ds ρ1 H1 F1 S1 s1 g1 vs r1 => ?_)⟩
  unfold range2D at g1
  split at g1
  · split at g1
    · rename_i hz
      obtain ⟨v, u, rfl, rv, ru⟩ := reps2 r1
      cases rv; cases ru
      exact ⟨_, _, rfl, ⟨hz.1.1, hz.1.2, hz.2.1, hz.2.2⟩, g1 H1 F1 S1 Sm.refl _ okR⟩
    · exact g1.elim
  · exact g1.elim

end

section
variable {X : Cx} {W : WX} {st : Stmt} {rest : List Stmt} {a b : M Fl} {e : Expr} {fe : M D} {pos : Pos}

theorem AG.tupH {es : List Expr} {k n : Nat} {ts : List Tg} (hc : HotC X) (h : AGs X es ts) (hl : n = lenT ts := by rfl) (hn : (assignEach es X.env).length = n := by rfl) (hst : (assignEach es X.env).findIdx? (·.1) = none := by rfl) : AG X (.Tuple es k pos) (.tp ts) := by
  obtain ⟨g, pg, qg⟩ := h
  refine ⟨_, pg_or (pg_tupH hc pg hn hst) (pg_unlH hc pg hn hst), fun G σ H F ρ v d Q S r hg => ?_⟩
  cases r with
  | tup hx rx =>
    unfold putT at hg
    split at hg
    · rename_i hz
      exact .inl ⟨_, _, rfl, SqTm S.sub hx, by rw [rx.length, hz, hl], qg G σ H F ρ _ _ Q S rx hg⟩
    · exact hg.elim
  | lst hx rx =>
    unfold putT at hg
    split at hg
    · rename_i hz
      exact .inr ⟨_, _, rfl, .of (S.sub _ _ hx), by rw [rx.length, hz, hl], qg G σ H F ρ _ _ Q S rx hg⟩
    · exact hg.elim
  | _ => exact hg.elim

end

section
variable {X : Cx} {W : WX} {elt tg iter c : Expr} {ifs : List Expr} {scope : Scope} {own : List (Str × Nat)} {pos : Pos} {it : M (List D)} {t : Tg} {tc : M Bool} {el : M D}

abbrev blkXH (X : Cx) (scope : Scope) (s : Shared) (H : Hp) (C : Addr) (cl : List (Str × Addr)) (fp : List Addr) : Cx := Hx.blkH X s H scope (compEnvC scope cl C X.env) fp

theorem lc_partsH (hi : AIH X W tg iter it) (hsl : ∀ i ∈ slT t, i ∈ own.map (·.2))
    (hg : ∀ s H C cl fp, AG (blkXH X scope s H C cl fp) tg t) (ht : ∀ s H C cl fp, ATs (blkXH X scope s H C cl fp) W0 ifs tc) (he : ∀ s H C cl fp, AE (blkXH X scope s H C cl fp) W0 elt el) :
    ∃ wi g tt te, PIH X tg iter wi ∧ (∀ s H C cl fp, PG (blkXH X scope s H C cl fp) tg g) ∧ (∀ s H C cl fp, PTs (blkXH X scope s H C cl fp) ifs tt) ∧ (∀ s H C cl fp, PE (blkXH X scope s H C cl fp) elt te) ∧
      ∀ G σ H F ρ Q, Stt X.K G σ H F ρ → Good X.K G W σ F (mLc it (own.map (·.2)) t tc el ρ) (fun ds ρ' H' F' => ∀ a vs H2, Stt X.K ⟨G.H0, G.F0, G.io, (a, .lst vs) :: G.xt⟩ σ H2 F' ρ' → Reps X.K F' vs ds → Q (.ref a) H2) → tLc wi g tt te (own.map (·.2)) σ H Q := by
  obtain ⟨wi, pi, qi⟩ := hi
  -- one reading for every block
  let g : TG := fun v σ H Q => ∀ s H0 C cl fp, (Classical.choose (hg s H0 C cl fp)) v σ H Q
  let tt : TT := fun σ H Q => ∀ s H0 C cl fp, (Classical.choose (ht s H0 C cl fp)) σ H Q
  let te : TE := fun σ H Q => ∀ s H0 C cl fp, (Classical.choose (he s H0 C cl fp)) σ H Q
  have pg : ∀ s H C cl fp, PG (blkXH X scope s H C cl fp) tg g := fun s H C cl fp => ⟨fun pins s1 σ H1 v u Q I r h => (Classical.choose_spec (hg s H C cl fp)).1.run pins s1 σ H1 v u Q I r (h s H C cl fp)⟩
  have pt : ∀ s H C cl fp, PTs (blkXH X scope s H C cl fp) ifs tt := fun s H C cl fp => ⟨fun pins s1 σ H1 Q I h => (Classical.choose_spec (ht s H C cl fp)).1.run pins s1 σ H1 Q I (h s H C cl fp)⟩
  have pe : ∀ s H C cl fp, PE (blkXH X scope s H C cl fp) elt te := fun s H C cl fp => ⟨fun pins s1 σ H1 Q I h => (Classical.choose_spec (he s H C cl fp)).1.run pins s1 σ H1 Q I (h s H C cl fp)⟩
  have qg : ∀ G σ H F ρ v d Q, Stt X.K G σ H F ρ → Rep X.K F v d → GoodT X.K G F σ (slT t) (putT t d ρ) Q → g v σ H Q := fun G σ H F ρ v d Q S r h s H0 C cl fp => (Classical.choose_spec (hg s H0 C cl fp)).2 G σ H F ρ v d Q S r h
  have qt : ∀ G σ H F ρ Q, Stt X.K G σ H F ρ → Good X.K G W0 σ F (tc ρ) (PB Q) → tt σ H Q := fun G σ H F ρ Q S h s H0 C cl fp => (Classical.choose_spec (ht s H0 C cl fp)).2 G σ H F ρ Q S h
  have qe : ∀ G σ H F ρ Q, Stt X.K G σ H F ρ → Good X.K G W0 σ F (el ρ) (PD X.K Q) → te σ H Q := fun G σ H F ρ Q S h s H0 C cl fp => (Classical.choose_spec (he s H0 C cl fp)).2 G σ H F ρ Q S h
  refine ⟨wi, g, tt, te, pi, pg, pt, pe, fun G σ H F ρ Q S hgd => qi G σ H F ρ _ S (hgd.bind fun ds ρ1 H1 F1 S1 s1 g1 J hJ Da hDa => ?_)⟩
  generalize hvs : own.map (·.2) = vs at hsl g1 ⊢
  -- the list at Da waits
  let GX : List V → Ent := fun ws => ⟨G.H0, G.F0, G.io, (Da, .lst ws) :: G.xt⟩
  refine ⟨fun i m H' => i + m = ds.length ∧ ∃ F' ρ' ws acc, Stt X.K (GX ws) σ H' F' ρ' ∧ Sm F1 F' ∧ Reps X.K F' ws acc ∧ Good X.K G W σ F' ((lcM vs t tc el (ds.drop i) acc ρ').nox) (fun ds ρ' H' F' => ∀ a vs H2, Stt X.K ⟨G.H0, G.F0, G.io, (a, .lst vs) :: G.xt⟩ σ H2 F' ρ' → Reps X.K F' vs ds → Q (.ref a) H2),
    ⟨ds.length, by omega, F1, ρ1, [], [], S1.xtNew hDa, Sm.refl, .nil, by rw [List.drop_zero]; exact g1⟩, ?_⟩
  rintro i m H' ⟨hm, F', ρ', ws, acc, S', s', ra, hgf⟩
  obtain ⟨stop, go⟩ := hJ i H' F' s' S'.sub
  by_cases hlt : i < ds.length
  · rw [List.drop_eq_getElem_cons hlt] at hgf
    obtain ⟨hgo, hy⟩ := go ds[i] (List.getElem?_eq_getElem hlt)
    refine .inr ⟨hgo, fun H2 => (i + 1) + (m - 1) = ds.length ∧ ∃ F' ρ' ws acc, Stt X.K (GX ws) σ H2 F' ρ' ∧ Sm F1 F' ∧ Reps X.K F' ws acc ∧ Good X.K G W σ F' ((lcM vs t tc el (ds.drop (i + 1)) acc ρ').nox) (fun ds ρ' H' F' => ∀ a vs H2, Stt X.K ⟨G.H0, G.F0, G.io, (a, .lst vs) :: G.xt⟩ σ H2 F' ρ' → Reps X.K F' vs ds → Q (.ref a) H2),
      fun H2 hn => ⟨m - 1, by omega, hn⟩, fun x H2 hyl => ?_⟩
    obtain ⟨F2, A2, r2⟩ := hy x H2 hyl
    have S2 := S'.aft A2
    have ra2 := ra.mono A2.f
    unfold lcM at hgf
    by_cases hpl : plainR ρ' vs = true
    · rw [if_pos hpl] at hgf
      have hpl' : ∀ v ∈ vs, (ρ'.getD v .un).isFar = false := fun v hv => by
        have := List.all_eq_true.mp hpl v hv
        simpa using this
      have S3 := S2.wiped vs fun v hv => not_own_io (hpl' v hv)
      refine qg (GX ws) (wipe σ vs) H2 F2 (wipeR ρ' vs) x _ _ S3 r2 ?_
      cases e : putT t ds[i] (wipeR ρ' vs) with
      | ok u ρ3 =>
        rw [e] at hgf
        refine fun σ3 H3 F3 S4 s4 o4 => ?_
        have l3 : σ3.length = (wipe σ vs).length := by
          rw [← S4.len, len_putT _ _ _ _ _ e, ← S3.len]
        have w3 : wipe σ3 vs = wipe σ vs := by
          refine wipe_same vs (by rw [l3, wipe_length]) fun j hj => ?_
          rw [o4 j fun hm => hj (hsl j hm), get_wipe σ vs j hj]
        have o3 : ∀ j, j ∉ vs → σ3[j]? = σ[j]? := fun j hj => by rw [o4 j fun hm => hj (hsl j hm), get_wipe σ vs j hj]
        refine ⟨w3, ?_⟩
        have ra3 := ra2.mono s4
        -- back to the slots of the def
        have back : ∀ {ws' : List V} {H6 F6 : Hp} {ρ6 : Ro}, Stt X.K (GX ws') σ3 H6 F6 ρ6 → Sm F3 F6 → freeR ρ6 vs = true → Stt X.K (GX ws') σ H6 F6 (backR ρ' ρ6 vs) := fun {ws' H6 F6 ρ6} S6 s6 hf => by
          have hf' : ∀ v ∈ vs, (ρ6.getD v .un).isIo = false := fun v hv => by
            have := List.all_eq_true.mp hf v hv
            simpa using this
          obtain ⟨τ, Sτ, t1, t2, tl⟩ := S6.backed (σ := σ) (ρ0 := ρ') (by rw [l3, wipe_length]) vs vs hf' fun v hv => ⟨hpl' v hv, by
            have q := S'.at_ v
            have no := hpl' v hv
            cases ev : ρ'.getD v .un with
            | un => trivial
            | val d => rw [ev] at q; obtain ⟨w, e1, r⟩ := q; exact ⟨w, e1, r.mono (A2.f.tr (s4.tr s6))⟩
            | own p xs => rw [ev] at no; cases no
            | ins p C ns dd => rw [ev] at no; cases no
            | dic p ks dd => rw [ev] at no; cases no
            | nst p dd => rw [ev] at no; cases no
            | pin => rw [ev] at no; cases no⟩
          have eτ : τ = σ := by
            apply List.ext_getElem?
            intro j
            by_cases hj : j ∈ vs
            · exact t2 j hj
            · rw [t1 j hj, o3 j hj]
          rw [eτ] at Sτ
          exact Sτ
        have hgf : Good X.K G W σ F3 (((tc ρ3).bind fun k ρ2 =>
            if k = true then (el ρ2).bind fun y ρ3 => if acc.length < sizeLine ∧ freeR ρ3 vs = true then lcM vs t tc el (ds.drop (i + 1)) (acc ++ [y]) (backR ρ' ρ3 vs) else .stuck
            else if freeR ρ2 vs = true then lcM vs t tc el (ds.drop (i + 1)) acc (backR ρ' ρ2 vs) else .stuck).nox) _ := Good.mono (A2.f.tr s4) hgf
        refine qt (GX ws) σ3 H3 F3 ρ3 _ S4 ?_
        cases ec : tc ρ3 with
        | ok k ρ4 =>
          rw [ec] at hgf
          refine fun H5 F5 S5 s5 => ?_
          have ra5 := ra3.mono s5
          cases k with
          | true =>
            show if true = true then _ else _
            rw [if_pos rfl]
            refine qe (GX ws) σ3 H5 F5 ρ4 _ S5 ?_
            have hgf : Good X.K G W σ F5 (((el ρ4).bind fun y ρ3 => if acc.length < sizeLine ∧ freeR ρ3 vs = true then lcM vs t tc el (ds.drop (i + 1)) (acc ++ [y]) (backR ρ' ρ3 vs) else .stuck).nox) _ := Good.mono s5 hgf
            cases ee : el ρ4 with
            | ok y ρ5 =>
              rw [ee] at hgf
              refine fun H6 F6 S6 s6 v rv => ?_
              have hgf : Good X.K G W σ F6 ((if acc.length < sizeLine ∧ freeR ρ5 vs = true then lcM vs t tc el (ds.drop (i + 1)) (acc ++ [y]) (backR ρ' ρ5 vs) else .stuck).nox) _ := Good.mono s6 hgf
              split at hgf
              · rename_i hz
                have S7 := back S6 (s5.tr s6) hz.2
                obtain ⟨x1, x2, x3, x4⟩ := S6.xt (Da, .lst ws) (List.mem_cons_self ..)
                refine ⟨ws, x1, by rw [ra.length]; exact hz.1, by omega, F6, _, ws ++ [v], acc ++ [y], S7.xtUpd, s'.tr (A2.f.tr (s4.tr (s5.tr s6))), (ra5.mono s6).append (.cons rv .nil), hgf⟩
              · exact hgf.elim
            | exc xx ρ5 => rw [ee] at hgf; exact hgf.elim
            | stuck => rw [ee] at hgf; exact hgf.elim
          | false =>
            show if false = true then _ else _
            rw [if_neg Bool.false_ne_true]
            have hgf : Good X.K G W σ F5 ((if freeR ρ4 vs = true then lcM vs t tc el (ds.drop (i + 1)) acc (backR ρ' ρ4 vs) else .stuck).nox) _ := Good.mono s5 hgf
            split at hgf
            · rename_i hz
              exact ⟨by omega, F5, _, ws, acc, back S5 s5 hz, s'.tr (A2.f.tr (s4.tr s5)), ra5, hgf⟩
            · exact hgf.elim
        | exc xx ρ4 => rw [ec] at hgf; exact hgf.elim
        | stuck => rw [ec] at hgf; exact hgf.elim
      | exc xx ρ3 => rw [e] at hgf; exact hgf.elim
      | stuck => rw [e] at hgf; exact hgf.elim
    · rw [if_neg hpl] at hgf; exact hgf.elim
  · have e0 : ds.drop i = [] := List.drop_eq_nil_of_le (by omega)
    rw [e0] at hgf
    have hgf : Good X.K G W σ F' (.ok acc ρ') (fun ds ρ' H' F' => ∀ a vs H2, Stt X.K ⟨G.H0, G.F0, G.io, (a, .lst vs) :: G.xt⟩ σ H2 F' ρ' → Reps X.K F' vs ds → Q (.ref a) H2) := hgf
    exact .inl ⟨stop (by omega), hgf H' F' S'.xtDrop Sm.refl Da ws H' S' ra⟩

theorem AN.lcH (hc : HotC X) (hN : X.N.Nodup) (hi : AIH X W tg iter it) (ok : BlkOk X.N X.env.scope scope own) (hsl : ∀ i ∈ slT t, i ∈ own.map (·.2))
    (hg : ∀ s H C cl fp, AG (blkXH X scope s H C cl fp) tg t) (ht : ∀ s H C cl fp, ATs (blkXH X scope s H C cl fp) W0 ifs tc) (he : ∀ s H C cl fp, AE (blkXH X scope s H C cl fp) W0 elt el)
    (hs : ∀ x, foldedSetIterable iter X.env x = pure x := by intro _; rfl) : AN X W (.ListComp elt [⟨tg, iter, ifs, 0⟩] scope pos) (mLc it (own.map (·.2)) t tc el) := by
  obtain ⟨wi, g, tt, te, pi, pg, pt, pe, q⟩ := lc_partsH hi hsl hg ht he
  exact ⟨_, pe_lcH hc hN pi ok pg pt pe hs, q⟩

end

section
variable {X : Cx} {W : WX} {k n : Nat} {f : Addr} {fd : FuncData} {ps : List Str} {sp : Sp} {dvs : List V} {dV : List Value} {dd : List D} {x y : Str} {p py pos : Pos} {e : Expr} {es : List Expr} {fs : M (List D)} {m : List D → FR D} {mi : SV → List D → IR}

theorem run_fnWH {pins : List (Addr × Obj)} {σ : St} {H : Hp} {s : Shared} {Q : VK} {us : List Value} {vs : List V} (Fn : FnGH X.prog X.w X.K X.mg X.base k f fd ps sp) (hr : RoomGH k X.A) (hh : HotC X) (hb : Binds X.K fd ps dV) (hd : Vals dvs dV) (tk : L2N.Takes X W)
    (I : Inv X pins σ H s) (r : Vals vs us) (h : sp (vs ++ dvs) H Q (WE W σ)) : wpAny (model X.prog X.w) X.A (call (.ref f) us) (EP X pins σ Q) X.xe s := by
  obtain ⟨pp, hot, hpin⟩ := pinOk_of hh I
  have r2 := r.append hd
  have hl : (us ++ dV).length = ps.length := r2.length.symm.trans (Fn.len _ _ _ _ h)
  refine wpAny_call (codeAny_mono (Fn.run X.A X.stack s H ⟨us, []⟩ (us ++ dV) (vs ++ dvs) Q (WE W σ) pp hr hot hpin I.env0 (hb s us I.kIn hl) r2 h) fun r s' hq => ?_)
  cases r with
  | error e => exact L2N.passAt tk σ pins H s e s' I hq
  | ok fl =>
    cases fl with
    | ret u => exact I.after hq
    | _ => exact hq.elim

theorem pe_callWH {ta : TA} (Fn : FnGH X.prog X.w X.K X.mg X.base k f fd ps sp) (hr : RoomGH k X.A) (hh : HotC X) (hg : Gl X x) (hm : X.mg x = some (.ref f)) (hk : PySem.W.keepIn X.K (.ref f) = true) (hb : Binds X.K fd ps dV) (hd : Vals dvs dV) (tk : L2N.Takes X W)
    (ha : PA X (e :: es) ta) (hdb : (x == ("__debug__" : Str)) = false := by decide) (he : starEach (e :: es) X.env = (false, eval e X.env) :: starEach es X.env := by rfl) (hpl : (backTo pos (starEach es X.env)).any (·.1) = false := by rfl) :
    PE X (.Call (.Name x p) (e :: es) [] pos) (tCallW W sp dvs ta) := by
  refine ⟨fun pins s σ H Q I h => ?_⟩
  refine wpAny_Call_Name_kw (ld_glob I hg hm (PySem.W.callWith_K (h₀ := X.base) I.ok.mod.kin hk ?_ he hpl) hdb)
  refine thn (ha.run pos pins s σ H _ I h) fun us s1 ⟨vs, H1, I1, r, q⟩ => ?_
  exact ⟨I1.kIn, run_fnWH Fn hr hh hb hd tk I1 r q⟩

theorem AE.callH (Fn : FnGH X.prog X.w X.K X.mg X.base k f fd ps (PSp X.K n m)) (hr : RoomGH k X.A) (hh : HotC X) (hg : Gl X x) (hm : X.mg x = some (.ref f)) (hk : PySem.W.keepIn X.K (.ref f) = true) (hb : Binds X.K fd ps dV) (hd : Vals dvs dV) (hdd : ∀ K H, Reps K H dvs dd) (tk : L2N.Takes X W)
    (ha : AA X W (e :: es) fs) (hdb : (x == ("__debug__" : Str)) = false := by decide) (he : starEach (e :: es) X.env = (false, eval e X.env) :: starEach es X.env := by rfl) (hpl : (backTo pos (starEach es X.env)).any (·.1) = false := by rfl) :
    AE X W (.Call (.Name x p) (e :: es) [] pos) (mCall m n dd fs) := by
  obtain ⟨t, pa, qa⟩ := ha
  refine ⟨_, pe_callWH Fn hr hh hg hm hk hb hd tk pa hdb he hpl, fun G σ H F ρ Q S hgd => qa G σ H F ρ _ S (hgd.bind fun ds ρ1 H1 F1 S1 s1 g1 vs r1 => ?_)⟩
  have g1 : Good X.K G W σ F1 ((if ds.length + dd.length = n then m (ds ++ dd) else FR.stuck).lift ρ1) (PD X.K Q) := g1
  split at g1
  · rename_i hz
    exact ⟨by rw [List.length_append, r1.length, (hdd X.K F1).length]; exact hz, F1, ds ++ dd, S1.pre, r1.append (hdd _ _), aftGood S1 g1⟩
  · exact g1.elim

theorem run_makeWH {C : Addr} {pins : List (Addr × Obj)} {σ : St} {H : Hp} {s : Shared} {Q : VK} {us : List Value} {vs : List V} (M : L2.Mk X.K C f) (Fn : FnGH X.prog X.w X.K X.mg X.base k f fd ps sp) (hr : RoomGH (k + 1) X.A) (hh : HotC X) (hb : Binds X.K fd ps dV) (hd : Vals dvs dV)
    (tk : L2N.Takes X W) (I : Inv X pins σ H s) (r : Vals vs us)
    (h : ∀ x dx, H x = none → H dx = none → dx ≠ x → sp (.ref x :: (vs ++ dvs)) (upd (upd H dx (.own x)) x (.ins C dx [])) (fun v H2 => v = .non ∧ Q (.ref x) H2) (WE W σ)) :
    wpAny (model X.prog X.w) X.A (call (.ref C) us) (EP X pins σ Q) X.xe s := by
  obtain ⟨pp, hot, hpin⟩ := pinOk_of hh I
  have hq := h (s.heap.objs.size + 1) s.heap.objs.size (I.hok.fresh (Nat.le_succ _)) (I.hok.fresh (Nat.le_refl _)) (Nat.ne_of_lt (Nat.lt_succ_self _))
  have I2 := Inv.made (C := C) I
  have hpin2 := (pinOk_of hh I2)
  obtain ⟨p2, hot2, hpin2⟩ := hpin2
  have r2 : Vals (V.ref (s.heap.objs.size + 1) :: (vs ++ dvs)) (Value.ref (s.heap.objs.size + 1) :: (us ++ dV)) := .cons rfl (r.append hd)
  have hl : (Value.ref (s.heap.objs.size + 1) :: us ++ dV).length = ps.length := by
    have e := r2.length
    rw [Fn.len _ _ _ _ hq] at e
    exact e.symm
  refine wpAny_call (make_map (f := f) I.kIn M.makes M.init (beq_iff_eq.mp M.fn) (codeAny_mono (Fn.run _ X.stack _ _ ⟨Value.ref (s.heap.objs.size + 1) :: us, []⟩ (Value.ref (s.heap.objs.size + 1) :: (us ++ dV)) _ _ _ p2 (hr.make C us []) (hot1_make hot2 C us []) hpin2
    (I2.env0.make C us []) (hb _ (Value.ref (s.heap.objs.size + 1) :: us) I2.kIn hl) r2 hq) fun r s' hq' => ?_))
  cases r with
  | error e => exact L2N.passAt tk σ pins _ _ e s' I2 hq'
  | ok fl =>
    cases fl with
    | ret u =>
      obtain ⟨v, H', I3, rv, ev, q3⟩ := I2.after hq'
      subst ev
      exact ⟨rv, ⟨V.ref (s.heap.objs.size + 1), H', I3, rfl, q3⟩⟩
    | _ => exact hq'.elim

theorem pe_makeWH {C : Addr} {ta : TA} (M : L2.Mk X.K C f) (Fn : FnGH X.prog X.w X.K X.mg X.base k f fd ps sp) (hr : RoomGH (k + 1) X.A) (hh : HotC X) (hg : Gl X x) (hm : X.mg x = some (.ref C)) (hb : Binds X.K fd ps dV) (hd : Vals dvs dV) (tk : L2N.Takes X W)
    (ha : PA X (e :: es) ta) (hdb : (x == ("__debug__" : Str)) = false := by decide) (he : starEach (e :: es) X.env = (false, eval e X.env) :: starEach es X.env := by rfl) (hpl : (backTo pos (starEach es X.env)).any (·.1) = false := by rfl) :
    PE X (.Call (.Name x p) (e :: es) [] pos) (tMakeW W C sp dvs ta) := by
  refine ⟨fun pins s σ H Q I h => ?_⟩
  refine wpAny_Call_Name_kw (ld_glob I hg hm ?_ hdb)
  refine PySem.W.callWith_K (h₀ := X.base) I.ok.mod.kin M.kp (thn (ha.run pos pins s σ H _ I h) fun us s1 ⟨vs, H1, I1, r, q⟩ => ⟨I1.kIn, ?_⟩) he hpl
  exact run_makeWH M Fn hr hh hb hd tk I1 r q

theorem AE.makeH (M : L2.Mk X.K (He.ga X.K c) f) (Fn : FnGH X.prog X.w X.K X.mg X.base k f fd ps (ISp X.K n mi)) (hr : RoomGH (k + 1) X.A) (hh : HotC X) (hg : Gl X x) (hm : X.mg x = some (.ref (He.ga X.K c))) (hb : Binds X.K fd ps dV) (hd : Vals dvs dV) (hdd : ∀ K H, Reps K H dvs dd) (tk : L2N.Takes X W)
    (ha : AA X W (e :: es) fs) (hdb : (x == ("__debug__" : Str)) = false := by decide) (he : starEach (e :: es) X.env = (false, eval e X.env) :: starEach es X.env := by rfl) (hpl : (backTo pos (starEach es X.env)).any (·.1) = false := by rfl) :
    AE X W (.Call (.Name x p) (e :: es) [] pos) (mMake c mi n dd fs) := by
  obtain ⟨t, pa, qa⟩ := ha
  refine ⟨_, pe_makeWH M Fn hr hh hg hm hb hd tk pa hdb he hpl, fun G σ H F ρ Q S hgd => qa G σ H F ρ _ S (hgd.bind fun ds ρ1 H1 F1 S1 s1 g1 vs r1 => fun x dx nx ndx ne => ?_)⟩
  have g1 : Good X.K G W σ F1 (if ds.length + dd.length = n then match mi (.ins true c [] []) (ds ++ dd) with
    | .ok .non (.ins _ c' ns xs) => if c' = c then .ok (.obj c ns xs) ρ1 else .stuck
    | .exc x _ => .exc x ρ1
    | _ => .stuck
  else .stuck) (PD X.K Q) := g1
  split at g1
  · rename_i hz
    have fx := S1.sub.none nx
    have sub1 : Sm H1 (upd (upd H1 dx (.own x)) x (.ins (He.ga X.K c) dx [])) := fun b o h => by
      rw [upd_ne (fun z => by subst z; rw [nx] at h; cases h), upd_ne (fun z => by subst z; rw [ndx] at h; cases h)]; exact h
    have key : ∀ {sv : SV} {H' F' : Hp}, AftIo X.K x sv (upd (upd H1 dx (.own x)) x (.ins (He.ga X.K c) dx [])) F1 H' F' → SmT X.K H1 H' ∧ (∀ b o, F' b = some o → F1 b = some o ∨ Nn H1 b) := fun A =>
      ⟨⟨fun b o h n => A.h.k b o (fun z => by subst z; rw [nx] at h; cases h) (sub1 b o h) n, fun x => A.h.t (x.ext sub1)⟩, fun b o h => (A.new b o h).imp id fun z => fun o e => z o (sub1 b o e)⟩
    refine ⟨by rw [List.length_cons, List.length_append, r1.length, (hdd X.K F1).length]; omega, F1, x, vs ++ dvs, .ins true c [] [], ds ++ dd, rfl, ⟨S1.sub.tr sub1, S1.ft, S1.tb.ext sub1⟩, ⟨x, dx, [], rfl, by rw [upd_same]; rfl, rfl, fx, .nil⟩, rfl, r1.append (hdd _ _), ?_⟩
    cases em : mi (.ins true c [] []) (ds ++ dd) with
    | ok d sv =>
      rw [em] at g1
      cases d with
      | non =>
        cases sv with
        | ins pp c' ns xs =>
          have g1 : Good X.K G W σ F1 (if c' = c then R.ok (.obj c ns xs) ρ1 else .stuck) (PD X.K Q) := g1
          split at g1
          · rename_i hc
            subst hc
            intro v H' F' A rv
            cases rv
            refine ⟨rfl, ?_⟩
            obtain ⟨a, dx', ws, e1, e2, e3, e4, rr⟩ := A.at_
            cases e1
            obtain ⟨k1, k2⟩ := key A
            have sF : Sm F' (upd F' x (.ins (He.ga X.K c') dx' (ns.zip ws))) := Sm.updN e4
            refine g1 H' (upd F' x (.ins (He.ga X.K c') dx' (ns.zip ws))) (S1.grow k1 (fun b o h => ?_) (A.f.tr sF) (fun b o h => ?_) ((A.ft S1.ft).upd rfl)) (A.f.tr sF) _ (.obj upd_same rfl e3 (rr.mono sF))
            · by_cases z : b = x
              · subst z; rw [upd_same] at h; cases h; exact e2
              · rw [upd_ne z] at h; exact A.sub b o h
            · by_cases z : b = x
              · subst z; exact .inr (.of nx)
              · rw [upd_ne z] at h; exact k2 b o h
          · exact g1.elim
        | _ => exact g1.elim
      | _ => cases sv <;> exact g1.elim
    | exc xx sv =>
      rw [em] at g1
      intro d H' F' A rv
      obtain ⟨k1, k2⟩ := key A
      exact g1 d H' F' (S1.grow k1 A.sub A.f k2 (A.ft S1.ft)) A.f rv
    | stuck => rw [em] at g1; exact g1.elim
  · exact g1.elim

end

section
variable {X : Cx} {W : WX} {e o : Expr} {es : List Expr} {fe : M D} {fs : M (List D)} {p pos apos : Pos} {k : Nat}

structure MethGH (X : Cx) (k n : Nat) (c f : Str) (m : List D → FR D) : Prop where
  cl : Cls X.K (He.ga X.K c)
  ex : ∃ g fd ps, Meth X.K (He.ga X.K c) f g ∧ FnGH X.prog X.w X.K X.mg X.base k g fd ps (PSp X.K n m) ∧ Binds X.K fd ps []
def tMethGH (X : Cx) (W : WX) (k n : Nat) (f : Str) (ta : TE) (t : TA) : TE := fun σ H Q => ta σ H fun x H1 => ∃ a c dx fs, x = .ref a ∧ H1 a = some (.ins (He.ga X.K c) dx fs) ∧ fs.lookup f = none ∧ (∃ m, MethGH X k n c f m) ∧
  t σ H1 fun vs H2 => ∃ m, MethGH X k n c f m ∧ PSp X.K n m (x :: vs) H2 Q (WE W σ)

theorem pe_methGH {ta : TE} {t : TA} {m : Str} {n : Nat} {pl : Sem Bool} (he : PE X o ta) (hr : RoomGH k X.A) (hh : HotC X) (tk : L2N.Takes X W) (ha : PA X (e :: es) t)
    (hst : starEach (e :: es) X.env = (false, eval e X.env) :: starEach es X.env := by rfl) (hpl : (backTo pos (starEach es X.env)).any (·.1) = false := by rfl)
    (ht : eval (.Call (.Attribute o m apos) (e :: es) [] pos) X.env = (do
      let ov ← eval o X.env
      standAt apos.atName
      let (f, first) ← holding [ov] (getMethod ov m pl)
      callWith pos f first (backTo pos (starEach (e :: es) X.env)) (backToKw pos (keywordEach [] X.env))) := by rfl) :
    PE X (.Call (.Attribute o m apos) (e :: es) [] pos) (tMethGH X W k n m ta t) := by
  refine ⟨fun pins s σ H Q I h => PySem.W.methodCall_KW (pl := pl) (thn (he.run pins s σ H _ I h) fun u s1 ⟨x, H1, I1, rx, a, c, dx, fs, ex, ea, l, ⟨m0, G0⟩, q⟩ => ?_) ht⟩
  subst ex
  obtain rfl : u = Value.ref a := rx
  obtain ⟨g, fd, ps, hm, F0, hb0⟩ := G0.ex
  refine getmeth_ok I1 ea G0.cl hm l (PySem.W.callWith_K (first := [.ref a]) (h₀ := X.base) I.ok.mod.kin hm.kp (thn (ha.run pos pins s1 σ H1 _ I1 q) fun us s2 ⟨vs, H2, I2, r, m1, G1, q2⟩ => ⟨I2.kIn, ?_⟩) hst hpl)
  obtain ⟨g1, fd1, ps1, hm1, F1, hb1⟩ := G1.ex
  have eg : g1 = g := by
    have h1 := hm1.at_
    rw [hm.at_] at h1
    cases h1; rfl
  subst eg
  have q3 : PSp X.K n m1 ((.ref a :: vs) ++ []) H2 Q (WE W σ) := by rw [List.append_nil]; exact q2
  exact run_fnWH (us := .ref a :: us) (vs := .ref a :: vs) F1 hr hh hb1 .nil tk I2 (.cons rfl r) q3

theorem AE.methH {m : Str} {n : Nat} {cs : List (Str × (List D → FR D))} {pl : Sem Bool} (he : AE X W o fe) (hp : ∀ q ∈ cs, MethGH X k n q.1 m q.2) (hr : RoomGH k X.A) (hh : HotC X) (tk : L2N.Takes X W) (ha : AA X W (e :: es) fs)
    (hst : starEach (e :: es) X.env = (false, eval e X.env) :: starEach es X.env := by rfl) (hpl : (backTo pos (starEach es X.env)).any (·.1) = false := by rfl)
    (ht : eval (.Call (.Attribute o m apos) (e :: es) [] pos) X.env = (do
      let ov ← eval o X.env
      standAt apos.atName
      let (f, first) ← holding [ov] (getMethod ov m pl)
      callWith pos f first (backTo pos (starEach (e :: es) X.env)) (backToKw pos (keywordEach [] X.env))) := by rfl) :
    AE X W (.Call (.Attribute o m apos) (e :: es) [] pos) (mMeth cs m n fe fs) := by
  obtain ⟨t, pe, qe⟩ := he
  obtain ⟨u, pa, qa⟩ := ha
  refine ⟨_, pe_methGH (W := W) (n := n) pe hr hh tk pa hst hpl ht, fun G σ H F ρ Q S hg => qe G σ H F ρ _ S (hg.bind fun d ρ1 H1 F1 S1 s1 g1 v r1 => ?_)⟩
  cases em : methOf cs m d with
  | none => simp only [em] at g1; exact g1.elim
  | some mm =>
    simp only [em] at g1
    obtain ⟨c, ns, ds, rfl, hn, hc⟩ := methOf_obj em
    cases r1 with
    | obj h1 h2 h3 h4 =>
      refine ⟨_, c, _, _, rfl, S1.sub _ _ h1, by rw [h2]; exact zip_none hn, ⟨mm, hp _ hc⟩, qa G σ H1 F1 ρ1 _ S1 (g1.bind fun es2 ρ3 H3 F3 S3 s3 g3 ws r3 => ?_)⟩
      have g3 : Good X.K G W σ F3 ((if es2.length + 1 = n then mm (.obj c ns ds :: es2) else FR.stuck).lift ρ3) (PD X.K Q) := g3
      split at g3
      · rename_i hl
        exact ⟨mm, hp _ hc, by rw [List.length_cons, r3.length]; exact hl, F3, .obj c ns ds :: es2, S3.pre, .cons (.obj (s3 _ _ h1) h2 h3 (h4.mono s3)) r3, aftGood S3 g3⟩
      · exact g3.elim

end

section
variable {X : Cx} {W : WX} {k : Nat} {f : Addr} {fd : FuncData} {ps : List Str} {sp : Sp} {pins : List (Addr × Obj)} {σ : L2.St} {H : Hp} {s : Shared} {Q : VK}

theorem run_inH {A' : Around} {pp : Addr × Obj} (room : RoomGH k A') (hot : Hot1 A' pp) (hpin : PinOk X.stack H s pp) (e0 : Env0 X.prog X.w X.K X.mg X.base A' X.stack s H) {us : List Value} {vs : List V} (F : FnGH X.prog X.w X.K X.mg X.base k f fd ps sp) (hb : Binds X.K fd ps []) (I : Inv X pins σ H s) (r : Vals vs us) (h : sp vs H Q E0F) {E' : Value → Shared → Prop} :
    wpAny (model X.prog X.w) A' (call (.ref f) us) (EP X pins σ Q) E' s := by
  have hl : (us ++ ([] : List Value)).length = ps.length := by rw [List.append_nil, ← r.length]; exact F.len _ _ _ _ h
  refine wpAny_call (codeAny_mono (F.run A' X.stack s H ⟨us, []⟩ (us ++ []) vs Q E0F pp room hot hpin e0 (hb s us I.kIn hl) (by rw [List.append_nil]; exact r) h) fun r s2 q => ?_)
  match r, q with
  | .error er, q => obtain ⟨_, _, _, _, _, _, _, _, _, _, _, _, z⟩ := q; exact z.elim
  | .ok (.ret u), q => exact I.after q
  | .ok .next, q => exact False.elim q
  | .ok .brk, q => exact False.elim q
  | .ok .cont, q => exact False.elim q

theorem call_lenOwnH {C : Addr} (M : Meth X.K C "__len__" f) (F : FnGH X.prog X.w X.K X.mg X.base k f fd ps sp) (hr : RoomGH (k + 1) X.A) (hh : HotC X) (hb : Binds X.K fd ps []) : CallR X (.builtin "len") (rOwnLen C sp) := by
  intro pins s σ H xs us Q I r h
  obtain ⟨a, dx, fs, rfl, ea, hs⟩ := h
  obtain ⟨u, rfl, ru⟩ : ∃ u, us = [u] ∧ RelV (.ref a) u := by
    cases r with
    | cons r1 rr => cases rr; exact ⟨_, rfl, r1⟩
  obtain rfl : u = Value.ref a := ru
  obtain ⟨mA, J, _⟩ := ins_get I.hok ea
  obtain ⟨od, J, _⟩ := J.look
  obtain ⟨m, hF⟩ := I.fr
  have room : RoomGH k X.A.in1 := hr.in1
  obtain ⟨pp, hot, hpin⟩ := pinOk_of hh I
  refine PySem.W.len_K hF I.ok.mod.kin J M.at_ M.fn (wpAny_mono (run_inH (us := [.ref a]) (vs := [.ref a]) room hot hpin I.env0.in1 F hb I (.cons rfl .nil) hs) (fun r s' q => ?_) fun _ _ z => z)
  obtain ⟨w, H', I', rw_, n, e, hn, q⟩ := q
  subst e
  obtain ⟨t, rfl⟩ := rw_
  exact ⟨hn, .int n, H', I'.tok _, ⟨_, rfl⟩, q⟩

end

section
variable {X : Cx} {W : WX} {k : Nat} {f : Addr} {fd : FuncData} {ps : List Str} {sp : Sp} {c : Str} {m : List D → FR D}

theorem CA.lenWH (M : Meth X.K (He.ga X.K c) "__len__" f) (Fn : FnGH X.prog X.w X.K X.mg X.base k f fd ps (PSp X.K 1 m)) (hr : RoomGH (k + 1) X.A) (hh : HotC X) (hb : Binds X.K fd ps []) : CA X W (.builtin "len") (Mr.lenW c m) := by
  obtain ⟨r, p, q⟩ := CA.len (X := X) (W := W)
  refine ⟨_, CallR.or p (call_lenOwnH M Fn hr hh hb), fun G σ H F ρ vs ds Q S rs hg => ?_⟩
  by_cases ho : ∃ c' ns xs, ds = [.obj c' ns xs]
  · obtain ⟨c', ns, xs, rfl⟩ := ho
    obtain ⟨v, rfl, rv⟩ := reps1 rs
    cases rv with
    | @obj a dxx _ _ vs fs _ h1 h2 h3 h4 =>
      have gg : Good X.K G W σ F ((if c' = c then natR (m [.obj c' ns xs]) else .stuck).lift ρ) (PD X.K Q) := hg
      clear hg
      split at gg
      · rename_i hc
        subst hc
        obtain ⟨n, hm, hn, e⟩ := natR_ok gg
        rw [e] at gg
        refine .inr ⟨_, _, _, rfl, S.sub _ _ h1, rfl, F, [.obj c' ns xs], S.pre, .cons (.obj h1 h2 h3 h4) .nil, ?_⟩
        exact goodF0 S (fun d e v H' F' S' s' rv => by
            rw [hm] at e
            cases e
            cases rv
            exact ⟨n, rfl, hn, gg H' F' S' s' _ (.int _)⟩) ⟨_, hm⟩
      · exact gg.elim
  · have e : Mr.lenW c m ds = lenD ds := by
      unfold Mr.lenW
      split
      · rename_i c' ns xs; exact absurd ⟨c', ns, xs, rfl⟩ ho
      · rfl
    rw [e] at hg
    exact .inl (q G σ H F ρ vs ds Q S rs hg)

end
end Mr
namespace Hx
open PySem PySem.Spec PyProof.Rows L2 L2H HotX
theorem drawsT {prog : Program} {w : World} {A : Around} (it t x1 : Addr) (hne : t ≠ it) (hx : x1 ≠ it) (items : Array Value) :
    Draws prog w A it [it, t, x1] items.size (fun i v => items[i]? = some v) (fun i h => h.IsTupleIter it t i ∧ h.IsTuple t items ∧ HotAt A x1 h) where
  live := fun _ _ st => let ⟨o, ho, _⟩ := st.1; ⟨o, ho⟩
  frame := fun _ _ _ st hk => ⟨st.1.at fun o e => hk it (by simp) o e, st.2.1.at fun o e => hk t (by simp) o e, HotAt.keep st.2.2 fun o e => hk x1 (by simp) o e⟩
  item := fun i s Q E hi st hQ => wpAny_nextOf_tuple_item st.1 st.2.1 (x := items[i]) (by simp [hi]) fun h' hit' hs' =>
    hQ _ h' s.toks (by simp [hi]) ⟨hit', st.2.1.extBut hs'.extBut hne, HotAt.keep st.2.2 fun o e => hs'.extBut _ _ hx e⟩ hs'
  done := fun s Q E st hE => tup_endN st.2.2 hx st.1 st.2.1 (by simp) hE
theorem drawsL {prog : Program} {w : World} {A : Around} (it t x1 : Addr) (hne : t ≠ it) (hx : x1 ≠ it) (items : Array Value) :
    Draws prog w A it [it, t, x1] items.size (fun i v => items[i]? = some v) (fun i h => h.IsListIter it t i ∧ h.IsList t items ∧ HotAt A x1 h) where
  live := fun _ _ st => let ⟨o, ho, _⟩ := st.1; ⟨o, ho⟩
  frame := fun _ _ _ st hk => ⟨st.1.at fun o e => hk it (by simp) o e, st.2.1.at fun o e => hk t (by simp) o e, HotAt.keep st.2.2 fun o e => hk x1 (by simp) o e⟩
  item := fun i s Q E hi st hQ => wpAny_nextOf_list_item st.1 st.2.1 (x := items[i]) (by simp [hi]) fun h' hit' hs' =>
    hQ _ h' s.toks (by simp [hi]) ⟨hit', st.2.1.extBut hs'.extBut hne, HotAt.keep st.2.2 fun o e => hs'.extBut _ _ hx e⟩ hs'
  done := fun s Q E st hE => lst_endN st.2.2 hx st.1 st.2.1 (by simp) hE
section
variable {P : Program} {w : World} {K : PySem.W.Frag} {elts : List Expr} {kk : Nat} {tpos : Pos}
theorem turnET (a e it : Addr) : TurnH P w K (.Tuple elts kk tpos) (Mr.IteT K a) [e, it] e (fun i h => (∃ old, IsEnum h e it ((i : Nat) : Int) old) ∧ h.IsTupleIter it a i ∧ e ≠ it ∧ a ≠ it ∧ a ≠ e) where
  mem := by simp
  obj := fun i h st b hb => by
    obtain ⟨⟨old, he⟩, ⟨o, ho, hc, hd⟩, _⟩ := st
    rcases (by simpa using hb : b = e ∨ b = it) with rfl | rfl
    · exact ⟨_, he, fun v q => nomatch q⟩
    · exact ⟨o, ho, fun v q => by rw [hd] at q; cases q⟩
  keep := fun i h h' st k => let ⟨⟨old, he⟩, hi, r⟩ := st; ⟨⟨old, k e (by simp) _ he⟩, hi.at fun o q => k it (by simp) o q, r⟩
  item := by
    intro X hP hw hK hc i pins s σ H E I hf st hg; subst hP hw hK
    obtain ⟨⟨old, he⟩, hit, ne1, ne2, ne3⟩ := st
    obtain ⟨xs, x, hq, hx⟩ := hg
    obtain ⟨its, rv, p, hz⟩ := I.tuple hq
    obtain ⟨u, hu, ru⟩ := rv.get hx
    obtain ⟨qp, hqp, hot, _⟩ := hot_of hc I
    have x_it : qp.1 ≠ it := (hf it (by simp)).2.2.2.2.2 qp (List.mem_append_left _ hqp)
    have x_e : qp.1 ≠ e := (hf e (by simp)).2.2.2.2.2 qp (List.mem_append_left _ hqp)
    have le : e < s.heap.objs.size := Heap.lt_size he
    have li : it < s.heap.objs.size := by obtain ⟨_, q, _⟩ := hit; exact Heap.lt_size q
    have hi : i < its.toArray.size := by simpa using (List.getElem?_eq_some_iff.mp hu).1
    have D := drawsT (prog := X.prog) (w := X.w) (A := X.A.in1) it a qp.1 ne2 x_it its.toArray
    refine wpAny_pyNext_enum_itemD D he ⟨hit, p, HotAt.in1 hot⟩ hi ne1 (by simp [ne1, Ne.symm ne3, Ne.symm x_e]) fun y h' tk hy ho hs' hT hsz hk => ?_
    have ey : y = u := by
      have : its[i]? = some y := by simpa using hy
      rw [hu] at this; cases this; rfl
    subst ey
    refine ⟨_, rfl, wpAny_letOwnedTupleGo_enum (s := { s with heap := h', toks := tk + 1 }) ho fun h'' he' sb => ?_⟩
    have hT2 : h''.get? s.heap.objs.size = some { cls := .type "tuple", data := .seq #[.int i tk, y] } := (sb.2 _ (Nat.ne_of_gt le)).trans hT
    have new : ObjOk X.prog X.w (upd H s.heap.objs.size (.tup [.int (i : Nat), x])) h'' s.heap.objs.size (.tup [.int (i : Nat), x]) :=
      ⟨by show 2 ≤ sizeLine; decide, [.int i tk, y], .cons ⟨_, rfl⟩ (.cons ru .nil), ⟨_, hT2, rfl, _, rfl⟩⟩
    have J : Inv X pins σ (upd H s.heap.objs.size (.tup [.int (i : Nat), x])) { s with heap := h'', toks := tk + 1 } :=
      I.turnedNew (ch := [e, it]) (fun b ob hb q => (sb.2 b (fun z => hb (by simp [z]))).trans (hk b ob (fun z => hb (by simp [z])) (fun z => hb (by simp [z])) q)) hf (Nat.le_refl _) new
    refine ⟨.ref s.heap.objs.size, _, J, rfl, ⟨_, x, rfl, I.hok.fresh (Nat.le_refl _), rfl, fun ys hy => ?_⟩, ⟨⟨y, ?_⟩, hs'.1.at fun o q => (sb.2 it (Ne.symm ne1)).trans q, ne1, ne2, ne3⟩, fun b hb => ?_⟩
    · rw [I.tuple_inj hy hq]; exact hx
    · rw [show ((i + 1 : Nat) : Int) = (i : Int) + 1 by omega]; exact he'
    · have lb : b < s.heap.objs.size := by
        rcases (by simpa using hb : b = e ∨ b = it) with rfl | rfl
        · exact le
        · exact li
      rw [upd_ne (Nat.ne_of_lt lb)]
      exact (hf b hb).1
  done := by
    intro X hP hw hK hc i pins s σ H E I hf st hg; subst hP hw hK
    obtain ⟨⟨old, he⟩, hit, ne1, ne2, ne3⟩ := st
    obtain ⟨xs, hq, hx⟩ := hg
    obtain ⟨its, rv, p, hz⟩ := I.tuple hq
    obtain ⟨f0, f1, f2, f3, f4, f5⟩ := hf it (by simp)
    have hl := rv.length
    obtain ⟨qp, hqp, hot, _⟩ := hot_of hc I
    have x_it : qp.1 ≠ it := f5 qp (List.mem_append_left _ hqp)
    have D : Draws X.prog X.w X.A.in1 it [it, a, qp.1] i (fun _ _ => True) (fun j h => j = i ∧ h.IsTupleIter it a i ∧ h.IsTuple a its.toArray ∧ HotAt X.A.in1 qp.1 h) :=
      { live := fun j h st => let ⟨_, ⟨o, ho, _⟩, _⟩ := st; ⟨o, ho⟩
        frame := fun j h h' st k => ⟨st.1, st.2.1.at fun o q => k it (by simp) o q, st.2.2.1.at fun o q => k a (by simp) o q, HotAt.keep st.2.2.2 fun o e => k qp.1 (by simp) o e⟩
        item := fun j s Q E hj st _ => absurd st.1 (by omega)
        done := fun s Q E st hE => tup_endN st.2.2.2 x_it st.2.1 st.2.2.1 (by simp; omega) hE }
    exact wpAny_pyNext_enum_endD D he ⟨rfl, hit, p, HotAt.in1 hot⟩ fun h' eb => ⟨rfl, I.turned (t' := s.toks) (fun b o hb q => eb b o hb q) f0 f1 f3 f4 f5⟩
  self := fun A i s Q E st h => let ⟨⟨_, he⟩, _⟩ := st; wpAny_pyIter_enum he h
theorem turnE (a e it : Addr) : TurnH P w K (.Tuple elts kk tpos) (Ite K a) [e, it] e (fun i h => (∃ old, IsEnum h e it ((i : Nat) : Int) old) ∧ h.IsListIter it a i ∧ e ≠ it ∧ a ≠ it ∧ a ≠ e) where
  mem := by simp
  obj := fun i h st b hb => by
    obtain ⟨⟨old, he⟩, ⟨o, ho, hc, hd⟩, _⟩ := st
    rcases (by simpa using hb : b = e ∨ b = it) with rfl | rfl
    · exact ⟨_, he, fun v q => nomatch q⟩
    · exact ⟨o, ho, fun v q => by rw [hd] at q; cases q⟩
  keep := fun i h h' st k => let ⟨⟨old, he⟩, hi, r⟩ := st; ⟨⟨old, k e (by simp) _ he⟩, hi.at fun o q => k it (by simp) o q, r⟩
  item := by
    intro X hP hw hK hc i pins s σ H E I hf st hg; subst hP hw hK
    obtain ⟨⟨old, he⟩, hit, ne1, ne2, ne3⟩ := st
    obtain ⟨xs, x, hq, hx⟩ := hg
    obtain ⟨its, rv, p, hz⟩ := I.list hq
    obtain ⟨u, hu, ru⟩ := rv.get hx
    obtain ⟨qp, hqp, hot, _⟩ := hot_of hc I
    have x_it : qp.1 ≠ it := (hf it (by simp)).2.2.2.2.2 qp (List.mem_append_left _ hqp)
    have x_e : qp.1 ≠ e := (hf e (by simp)).2.2.2.2.2 qp (List.mem_append_left _ hqp)
    have le : e < s.heap.objs.size := Heap.lt_size he
    have li : it < s.heap.objs.size := by obtain ⟨_, q, _⟩ := hit; exact Heap.lt_size q
    have hi : i < its.toArray.size := by simpa using (List.getElem?_eq_some_iff.mp hu).1
    have D := drawsL (prog := X.prog) (w := X.w) (A := X.A.in1) it a qp.1 ne2 x_it its.toArray
    refine wpAny_pyNext_enum_itemD D he ⟨hit, p.isList, HotAt.in1 hot⟩ hi ne1 (by simp [ne1, Ne.symm ne3, Ne.symm x_e]) fun y h' tk hy ho hs' hT hsz hk => ?_
    have ey : y = u := by
      have : its[i]? = some y := by simpa using hy
      rw [hu] at this; cases this; rfl
    subst ey
    refine ⟨_, rfl, wpAny_letOwnedTupleGo_enum (s := { s with heap := h', toks := tk + 1 }) ho fun h'' he' sb => ?_⟩
    have hT2 : h''.get? s.heap.objs.size = some { cls := .type "tuple", data := .seq #[.int i tk, y] } := (sb.2 _ (Nat.ne_of_gt le)).trans hT
    have new : ObjOk X.prog X.w (upd H s.heap.objs.size (.tup [.int (i : Nat), x])) h'' s.heap.objs.size (.tup [.int (i : Nat), x]) :=
      ⟨by show 2 ≤ sizeLine; decide, [.int i tk, y], .cons ⟨_, rfl⟩ (.cons ru .nil), ⟨_, hT2, rfl, _, rfl⟩⟩
    have J : Inv X pins σ (upd H s.heap.objs.size (.tup [.int (i : Nat), x])) { s with heap := h'', toks := tk + 1 } :=
      I.turnedNew (ch := [e, it]) (fun b ob hb q => (sb.2 b (fun z => hb (by simp [z]))).trans (hk b ob (fun z => hb (by simp [z])) (fun z => hb (by simp [z])) q)) hf (Nat.le_refl _) new
    refine ⟨.ref s.heap.objs.size, _, J, rfl, ⟨_, x, rfl, I.hok.fresh (Nat.le_refl _), rfl, fun ys hy => ?_⟩, ⟨⟨y, ?_⟩, hs'.1.at fun o q => (sb.2 it (Ne.symm ne1)).trans q, ne1, ne2, ne3⟩, fun b hb => ?_⟩
    · rw [I.list_inj hy hq]; exact hx
    · rw [show ((i + 1 : Nat) : Int) = (i : Int) + 1 by omega]; exact he'
    · have lb : b < s.heap.objs.size := by
        rcases (by simpa using hb : b = e ∨ b = it) with rfl | rfl
        · exact le
        · exact li
      rw [upd_ne (Nat.ne_of_lt lb)]
      exact (hf b hb).1
  done := by
    intro X hP hw hK hc i pins s σ H E I hf st hg; subst hP hw hK
    obtain ⟨⟨old, he⟩, hit, ne1, ne2, ne3⟩ := st
    obtain ⟨xs, hq, hx⟩ := hg
    obtain ⟨its, rv, p, hz⟩ := I.list hq
    obtain ⟨f0, f1, f2, f3, f4, f5⟩ := hf it (by simp)
    have hl := rv.length
    obtain ⟨qp, hqp, hot, _⟩ := hot_of hc I
    have x_it : qp.1 ≠ it := f5 qp (List.mem_append_left _ hqp)
    have D : Draws X.prog X.w X.A.in1 it [it, a, qp.1] i (fun _ _ => True) (fun j h => j = i ∧ h.IsListIter it a i ∧ h.IsList a its.toArray ∧ HotAt X.A.in1 qp.1 h) :=
      { live := fun j h st => let ⟨_, ⟨o, ho, _⟩, _⟩ := st; ⟨o, ho⟩
        frame := fun j h h' st k => ⟨st.1, st.2.1.at fun o q => k it (by simp) o q, st.2.2.1.at fun o q => k a (by simp) o q, HotAt.keep st.2.2.2 fun o e => k qp.1 (by simp) o e⟩
        item := fun j s Q E hj st _ => absurd st.1 (by omega)
        done := fun s Q E st hE => lst_endN st.2.2.2 x_it st.2.1 st.2.2.1 (by simp; omega) hE }
    exact wpAny_pyNext_enum_endD D he ⟨rfl, hit, p.isList, HotAt.in1 hot⟩ fun h' eb => ⟨rfl, I.turned (t' := s.toks) (fun b o hb q => eb b o hb q) f0 f1 f3 f4 f5⟩
  self := fun A i s Q E st h => let ⟨⟨_, he⟩, _⟩ := st; wpAny_pyIter_enum he h
end
section
variable {X : Cx}
theorem pi_enumAH {e : Expr} {ta : TA} {p pos tpos : Pos} {elts : List Expr} {kk : Nat} (hg : Gl X "enumerate") (hm : X.mg "enumerate" = none) (ha : PA X [e] ta) (hs : starEach [e] X.env = [(false, eval e X.env)] := by rfl) :
    PIH X (.Tuple elts kk tpos) (.Call (.Name "enumerate" p) [e] [] pos) (Mr.iEnumA X.K ta) := by
  refine ⟨fun pins s σ H R I h => Call_ (ld_blt I hg hm boot_enumerate (PyProof.Rows.callWith_type1 (thn (ha.run pos pins s σ H _ I h) fun us s1 ⟨vs, H1, I1, r1, q1⟩ => ?_) hs rfl))⟩
  obtain ⟨a, xs, ex, q⟩ := q1
  subst ex
  cases r1 with
  | cons r rr =>
    cases rr
    cases r
    have fresh : ∀ b : Addr, b = s1.heap.objs.size + 1 ∨ b = s1.heap.objs.size → s1.heap.objs.size ≤ b := fun b z => by rcases z with z | z <;> rw [z] <;> first | exact Nat.le_refl _ | exact Nat.le_succ _
    rcases q with ⟨hq, q⟩ | ⟨hq, q⟩
    · obtain ⟨its, rv, p', hz⟩ := I1.list hq
      have la : a < s1.heap.objs.size := by obtain ⟨_, q, _⟩ := p'.isList; exact Heap.lt_size q
      refine call_enumerate_list p'.isList fun h' he hit hsz hk => wpAny_pyIter_enum he ?_
      have I2 : Inv X pins σ H1 { s1 with heap := h' } := I1.kept (t' := s1.toks) hk
      exact ⟨s1.heap.objs.size + 1, [s1.heap.objs.size + 1, s1.heap.objs.size], _, _, H1, rfl, I2, turnE a (s1.heap.objs.size + 1) s1.heap.objs.size, ⟨⟨.none, he⟩, hit, Nat.succ_ne_self _, Nat.ne_of_lt la, Nat.ne_of_lt (Nat.lt_succ_of_lt la)⟩,
        fun b hb => I1.fpOk (fresh b (by simpa using hb)) (I1.hok.fresh (fresh b (by simpa using hb))), q⟩
    · obtain ⟨its, rv, p', hz⟩ := I1.tuple hq
      have la : a < s1.heap.objs.size := by obtain ⟨_, q, _⟩ := p'; exact Heap.lt_size q
      refine Mr.enum_call1 (begins_tuple a its.toArray) p' fun h' he hit hsz hk => wpAny_pyIter_enum he ?_
      have I2 : Inv X pins σ H1 { s1 with heap := h' } := I1.kept (t' := s1.toks) hk
      exact ⟨s1.heap.objs.size + 1, [s1.heap.objs.size + 1, s1.heap.objs.size], _, _, H1, rfl, I2, turnET a (s1.heap.objs.size + 1) s1.heap.objs.size,
        ⟨⟨.none, he⟩, ⟨_, hit, rfl, rfl⟩, Nat.succ_ne_self _, Nat.ne_of_lt la, Nat.ne_of_lt (Nat.lt_succ_of_lt la)⟩,
        fun b hb => I1.fpOk (fresh b (by simpa using hb)) (I1.hok.fresh (fresh b (by simpa using hb))), q⟩
theorem walksL {prog : Program} {w : World} {A : Around} (I ax x1 : Addr) (hne : ax ≠ I) (hx : x1 ≠ I) (items : Array Value) :
    Walks prog w A I [I, ax, x1] [I] items.size (fun i v => items[i]? = some v) (fun i h => h.IsListIter I ax i ∧ h.IsList ax items ∧ HotAt A x1 h) where
  sub := fun b hb => by simp at hb; simp [hb]
  frame := fun _ _ _ st hk => ⟨st.1.at fun o e => hk I (by simp) o e, st.2.1.at fun o e => hk ax (by simp) o e, HotAt.keep st.2.2 fun o e => hk x1 (by simp) o e⟩
  item := fun i s Q E hi st hQ => wpAny_pyNext_list_item st.1 st.2.1 (x := items[i]) (by simp [hi]) fun h' hit' hs' =>
    hQ _ h' s.toks (by simp [hi]) ⟨hit', st.2.1.extBut hs'.extBut hne, HotAt.keep st.2.2 fun o e => hs'.extBut _ _ hx e⟩ fun b o hb e => hs'.extBut b o (fun h => hb (by simp [h])) e
  done := fun s Q E st hQ => lst_end st.2.2 hx st.1 st.2.1 (by simp) fun h' hk => hQ h' s.toks fun b o hb e => hk b o (fun h => hb (by simp [h])) e
  self := fun i s Q E st hQ => wpAny_pyIter_listiter st.1 hQ
theorem cr_allH (hc : HotC X) : CallR X (.builtin "all") (rAll X.K) := by
  intro pins s σ H vs us Q I r ⟨a, bs, ev, hs, q⟩
  subst ev
  obtain ⟨its, rv, hl, _⟩ := I.list hs
  obtain ⟨qp, hqp, hot, _⟩ := hot_of hc I
  have lx : qp.1 ≠ s.heap.objs.size := by obtain ⟨_, o, _, ho, _⟩ := hot; exact Nat.ne_of_lt (Heap.lt_size ho)
  rw [Vals.ref1 r]
  refine call_all_walk (iter_any hl.isList fun s2 e2 st hne => ?_)
  subst e2
  refine ⟨_, _, _, _, _, _, _, rfl, walksL (A := X.A.in1) _ a qp.1 hne lx its.toArray, ⟨st.1, st.2, HotAt.in1 (HotAt.keep hot fun o e => Heap.get?_push_of_some _ e)⟩, truth_bools rv.bls, fun h' tk hk => ⟨.bl _, H, I.kept fun b o eo => hk b o (fun hm => ?_) (Heap.get?_push_of_some _ eo), ?_, q⟩⟩
  · obtain rfl := List.mem_singleton.mp hm
    exact absurd (Heap.lt_size eo) (Nat.lt_irrefl _)
  · show Value.bool _ = Value.bool _
    rw [← L2.all_range, rv.bls, List.size_toArray, List.length_map]
theorem cr_anyH (hc : HotC X) : CallR X (.builtin "any") (rAny X.K) := by
  intro pins s σ H vs us Q I r ⟨a, bs, ev, hs, q⟩
  subst ev
  obtain ⟨its, rv, hl, _⟩ := I.list hs
  obtain ⟨qp, hqp, hot, _⟩ := hot_of hc I
  have lx : qp.1 ≠ s.heap.objs.size := by obtain ⟨_, o, _, ho, _⟩ := hot; exact Nat.ne_of_lt (Heap.lt_size ho)
  rw [Vals.ref1 r]
  refine call_any_walk (iter_any hl.isList fun s2 e2 st hne => ?_)
  subst e2
  refine ⟨_, _, _, _, _, _, _, rfl, walksL (A := X.A.in1) _ a qp.1 hne lx its.toArray, ⟨st.1, st.2, HotAt.in1 (HotAt.keep hot fun o e => Heap.get?_push_of_some _ e)⟩, truth_bools rv.bls, fun h' tk hk => ⟨.bl _, H, I.kept fun b o eo => hk b o (fun hm => ?_) (Heap.get?_push_of_some _ eo), ?_, q⟩⟩
  · obtain rfl := List.mem_singleton.mp hm
    exact absurd (Heap.lt_size eo) (Nat.lt_irrefl _)
  · show Value.bool _ = Value.bool _
    rw [← L2.any_range, rv.bls, List.size_toArray, List.length_map]
end
end Hx
namespace Mr
open PySem PySem.Spec PyProof.Rows L2 Hx L2H
variable [Lam] [Pins]
section
variable {X : Cx} {W : WX}

theorem AIH.enum {e : Expr} {fs : M (List D)} {p pos tpos : Pos} {elts : List Expr} {kk : Nat} (hg : Gl X "enumerate") (hm : X.mg "enumerate" = none) (ha : AA X W [e] fs) (hs : starEach [e] X.env = [(false, eval e X.env)] := by rfl) :
    AIH X W (.Tuple elts kk tpos) (.Call (.Name "enumerate" p) [e] [] pos) (mItL enumD fs) := by
  obtain ⟨t, pa, qa⟩ := ha
  refine ⟨_, pi_enumAH hg hm pa hs, fun G σ H F ρ R S hgd => qa G σ H F ρ _ S (hgd.bind fun ds ρ1 H1 F1 S1 s1 g1 vs r1 => ?_)⟩
  unfold enumD at g1
  split at g1
  · obtain ⟨v, rfl, rv⟩ := reps1 r1
    cases rv with
    | lst hx rx => exact ⟨_, _, rfl, .inl ⟨.of (S1.sub _ _ hx), g1 H1 F1 S1 Sm.refl _ (okE (.of hx) rx)⟩⟩
  · obtain ⟨v, rfl, rv⟩ := reps1 r1
    cases rv with
    | frz hx rx => exact ⟨_, _, rfl, .inl ⟨SqLm S1.sub hx, g1 H1 F1 S1 Sm.refl _ (okE hx rx)⟩⟩
  · obtain ⟨v, rfl, rv⟩ := reps1 r1
    cases rv with
    | tup hx rx => exact ⟨_, _, rfl, .inr ⟨SqTm S1.sub hx, g1 H1 F1 S1 Sm.refl _ (okET hx rx)⟩⟩
  · exact g1.elim

theorem CA.allH (hc : HotC X) : CA X W (.builtin "all") allD := by
  refine ⟨_, cr_allH hc, fun G σ H F ρ vs ds Q S r hg => ?_⟩
  obtain ⟨a, ws, xs, rfl, h1, h2, h3⟩ := one_lst (h := fun xs => match blsD xs with | some ns => .ok (.bl (ns.all id)) | none => .stuck) (fun ds => by unfold allD; split <;> rfl) S r hg
  cases e : blsD xs with
  | none => rw [e] at h3; exact h3.elim
  | some ns =>
    rw [e] at h3
    rw [reps_bls h2 e] at h1
    exact ⟨a, ns, rfl, .of h1, h3 H F S Sm.refl _ (.bl _)⟩

theorem CA.anyH (hc : HotC X) : CA X W (.builtin "any") anyD := by
  refine ⟨_, cr_anyH hc, fun G σ H F ρ vs ds Q S r hg => ?_⟩
  obtain ⟨a, ws, xs, rfl, h1, h2, h3⟩ := one_lst (h := fun xs => match blsD xs with | some ns => .ok (.bl (ns.any id)) | none => .stuck) (fun ds => by unfold anyD; split <;> rfl) S r hg
  cases e : blsD xs with
  | none => rw [e] at h3; exact h3.elim
  | some ns =>
    rw [e] at h3
    rw [reps_bls h2 e] at h1
    exact ⟨a, ns, rfl, .of h1, h3 H F S Sm.refl _ (.bl _)⟩

end
end Mr
namespace Pm
open PySem PySem.Spec PyProof.Rows L2 Mr
noncomputable def b_System___init___h : M Fl :=
  (xSeq (xIf (tNot (tOf (mCall m_are_strands 1 [] (mCons (mVar 1) mNil)))) xNever xNx)
  (xSeq (xFld 0 "System" "own_strands" (mVar 1))
  (xFld 0 "System" "own_width" (mL lenD (mCons (m2 ixD (m2 ixD (m2 ixD (mVar 1) (mC (.int 0))) (mC (.int 1))) (mC (.int 0))) mNil)))))
noncomputable def m_System___init___h : SV → List D → IR := runI 2 b_System___init___h
noncomputable def b__law_told_k28 : M Fl :=
  (xTry (xRet (m1 (clsD [(Str.ofString "System", m_System_strands)]) (mMake "System" m_System___init__ 1 [] (mCons (mVar 0) mNil)))) [⟨[(Str.ofString "InvalidNumber", false), (Str.ofString "InvalidSystem", true)], none, fun y => (xRet (mC (.str (Str.ofString "none"))))⟩])
noncomputable def m__law_told_k28 : List D → FR D := runF 1 b__law_told_k28
noncomputable def e1__law_bent_strand : M D :=
  (m2 addD (m2 addD (mSlice (mVar 6) mONone (mOSome (mVar 7))) (mL tupD (mCons (mVar 1) mNil))) (mSlice (mVar 6) (mOSome (m2 addD (mVar 7) (mC (.int 1)))) mONone))
noncomputable def q1__law_bent_strand : M (List D) :=
  mLc (mWalk (mL tupD (mCons (mC (.bl true)) (mCons (mC .non) (mCons (mC (.str (Str.ofString "0"))) (mCons (m2 subD (mC (.int 1)) (m2 powD (mC (.int 10)) (mC (.int 20)))) (mCons (m2 powD (mC (.int 10)) (mC (.int 60))) mNil))))))) [1] (.sl 1) tYesM e1__law_bent_strand
noncomputable def e2__law_bent_strand : M D :=
  (mL tupD (mCons (mVar 4) (mCons (m2 addD (mSlice (mVar 5) mONone (mOSome (m1 negD (mC (.int 1))))) (mL tupD (mCons (mVar 8) mNil))) mNil)))
noncomputable def q2__law_bent_strand : M (List D) :=
  mLc (mWalk (mVar 2)) [8] (.sl 8) tYesM e2__law_bent_strand
noncomputable def e3__law_bent_strand : M D :=
  (mL tupD (mCons (mVar 9) (mCons (mVar 5) mNil)))
noncomputable def q3__law_bent_strand : M (List D) :=
  mLc (mWalk (mL tupD (mCons (mC (.str (Str.ofString "More"))) (mCons (mC (.str (Str.ofString ""))) (mCons (mC .non) (mCons (mC (.int 0)) (mCons (mC (.str (Str.ofString "less"))) (mCons (mL tupD (mCons (mC (.str (Str.ofString "more"))) mNil)) (mCons (mC (.str (Str.ofString "null"))) (mCons (mC (.str (Str.ofString "least"))) mNil)))))))))) [9] (.sl 9) tYesM e3__law_bent_strand
noncomputable def b__law_bent_strand : M Fl :=
  (xSeq (xPut (.tp [(.sl 4), (.sl 5)]) (mVar 1))
  (xSeq (xPut (.tp [(.sl 6), (.sl 7)]) (mL tupD (mCons (m2 ixD (mVar 5) (m1 negD (mC (.int 1)))) (mCons (mIo m__law_bit 1 0 (mCons (mL lenD (mCons (m2 ixD (mVar 5) (m1 negD (mC (.int 1)))) mNil)) mNil)) mNil))))
  (xSeq (xPut (.sl 2) (mL lstD (mCons (m2 addD (mVar 6) (mL tupD (mCons (mC (.int 0)) mNil))) (mCons (mSlice (mVar 6) mONone (mOSome (m1 negD (mC (.int 1))))) (mCons (mL listD (mCons (mVar 6) mNil)) (mCons (mC .non) (mCons (mL tupD mNil) (mCons (m2 addD (m2 addD (mSlice (mVar 6) mONone (mOSome (mVar 7))) (mL tupD (mCons (m2 powD (mC (.int 10)) (mC (.int 20))) mNil))) (mSlice (mVar 6) (mOSome (m2 addD (mVar 7) (mC (.int 1)))) mONone)) mNil))))))))
  (xSeq (xPut (.sl 2) (m2 addD (mVar 2) (mOfN q1__law_bent_strand)))
  (xSeq (xPut (.sl 3) (mOfN q2__law_bent_strand))
  (xSeq (xPut (.sl 3) (m2 addD (mVar 3) (mOfN q3__law_bent_strand)))
  (xSeq (xPut (.sl 3) (m2 addD (mVar 3) (mL lstD (mCons (mL tupD (mCons (mVar 4) (mCons (mL tupD mNil) mNil))) (mCons (mL tupD (mCons (mVar 4) (mCons (mL listD (mCons (mVar 5) mNil)) mNil))) (mCons (mL tupD (mCons (mVar 4) (mCons (m2 ixD (mVar 5) (mC (.int 0))) mNil))) (mCons (mL tupD (mCons (mVar 4) mNil)) (mCons (mL lstD (mCons (mVar 4) (mCons (mVar 5) mNil))) (mCons (mL tupD (mCons (mVar 5) (mCons (mVar 4) mNil))) (mCons (mC .non) mNil))))))))))
  (xRet (mIo m__law_pick 1 0 (mCons (m2 addD (mVar 3) (mL lstD (mCons (mL tupD (mCons (mVar 4) (mCons (mSlice (m2 mulD (mVar 5) (mC (.int 6))) mONone (mOSome (mC (.int 6)))) mNil))) (mCons (mL tupD (mCons (mVar 4) (mCons (mSlice (m2 mulD (mVar 5) (mC (.int 7))) mONone (mOSome (mC (.int 7)))) mNil))) (mCons (mL tupD (mCons (mVar 4) (mCons (mVar 5) (mCons (mVar 5) mNil)))) mNil))))) mNil))))))))))
noncomputable def m__law_bent_strand : SV → List D → IR := runI 10 b__law_bent_strand
noncomputable def b__law_near_k28 : M Fl :=
  (xSeq (xPar 3 4 (mCons (mIo m__law_bit 1 0 (mCons (mC (.int 8)) mNil)) (mCons (mIo m__law_bit 1 0 (mCons (mL lenD (mCons (mVar 1) mNil)) mNil)) mNil)))
  (xSeq (xIf (tOf (m2 gtD (mVar 3) (mC (.int 1)))) (xRet (m2 addD (m2 addD (mSlice (mVar 1) mONone (mOSome (mVar 4))) (mL tupD (mCons (mIo m__law_bent_strand 1 0 (mCons (m2 ixD (mVar 1) (mVar 4)) mNil)) mNil))) (mSlice (mVar 1) (mOSome (m2 addD (mVar 4) (mC (.int 1)))) mONone))) xNx)
  (xSeq (xPut (.sl 2) (mL lstD (mCons (mL tupD mNil) (mCons (mC .non) (mCons (mL listD (mCons (mVar 1) mNil)) (mCons (m2 ixD (mVar 1) (mC (.int 0))) (mCons (mSlice (m2 mulD (mVar 1) (mC (.int 12))) mONone (mOSome (mC (.int 12)))) (mCons (mSlice (m2 mulD (mVar 1) (mC (.int 13))) mONone (mOSome (mC (.int 13)))) (mCons (m1 revD (mVar 1)) (mCons (mC (.dct [] [])) (mCons (mC (.str (Str.ofString "x"))) (mCons (mSlice (mVar 1) (mOSome (mC (.int 1))) mONone) mNil))))))))))))
  (xRet (mIo m__law_pick 1 0 (mCons (mVar 2) mNil))))))
noncomputable def m__law_near_k28 : SV → List D → IR := runI 5 b__law_near_k28
noncomputable def e1__law_is_line_k28 : M D :=
  (mVar 3)
noncomputable def q1__law_is_line_k28 : M (List D) :=
  mLc (mWalk (mVar 0)) [3] (.sl 3) (tAnd (tOf (mL isiD (mCons (mVar 3) (mCons (mC (.opq (.ty "int"))) mNil)))) (tAnd (tNot (tOf (mL isiD (mCons (mVar 3) (mCons (mC (.opq (.ty "bool"))) mNil))))) (tOf (m2 ltD (mL absD (mCons (mVar 3) mNil)) (m2 powD (mC (.int 10)) (mC (.int 20))))))) e1__law_is_line_k28
noncomputable def b__law_is_line_k28 : M Fl :=
  (xSeq (xIf (tOr (tNot (tOf (mL isiD (mCons (mVar 0) (mCons (mC (.opq (.ty "tuple"))) mNil))))) (tOf (m2 neD (mL lenD (mCons (mVar 0) mNil)) (mVar 1)))) (xRet (mC (.bl false))) xNx)
  (xSeq (xPut (.sl 2) (mOfN q1__law_is_line_k28))
  (xRet (m2 eqD (mL lenD (mCons (mVar 2) mNil)) (mVar 1)))))
noncomputable def m__law_is_line_k28 : List D → FR D := runF 4 b__law_is_line_k28
noncomputable def y1__law_is_pack : M Fl :=
  (xSeq (xIf (tOr (tNot (tOf (mL isiD (mCons (mVar 3) (mCons (mC (.opq (.ty "tuple"))) mNil))))) (tOr (tNot (tOf (mChain leD leD (mC (.int 1)) (mL lenD (mCons (mVar 3) mNil)) (mC (.int 4))))) (tNot (tOf (mCall m__law_is_line_k28 2 [] (mCons (mVar 3) (mCons (mL lenD (mCons (mVar 3) mNil)) mNil))))))) (xRet (mC (.bl false))) xNx)
  (xDSet 1 (mL lenD (mCons (mVar 3) mNil)) (mC (.bl true))))
noncomputable def f1__law_is_pack : M Fl :=
  xFor (mWalk (m2 ixD (mVar 2) (mC (.int 1)))) (.sl 3) y1__law_is_pack
noncomputable def y2__law_is_pack : M Fl :=
  (xSeq (xIf (tOr (tNot (tOf (mL isiD (mCons (mVar 2) (mCons (mC (.opq (.ty "tuple"))) mNil))))) (tOr (tOf (m2 neD (mL lenD (mCons (mVar 2) mNil)) (mC (.int 2)))) (tOf (m2 ninD (mL reprD (mCons (m2 ixD (mVar 2) (mC (.int 0))) mNil)) (mL tupD (mCons (mC (.str (Str.ofString "'more'"))) (mCons (mC (.str (Str.ofString "'least'"))) (mCons (mC (.str (Str.ofString "'null'"))) mNil)))))))) (xRet (mC (.bl false))) xNx)
  (xSeq (xIf (tOr (tNot (tOf (mL isiD (mCons (m2 ixD (mVar 2) (mC (.int 1))) (mCons (mC (.opq (.ty "tuple"))) mNil))))) (tNot (tOf (mChain leD leD (mC (.int 1)) (mL lenD (mCons (m2 ixD (mVar 2) (mC (.int 1))) mNil)) (mC (.int 6)))))) (xRet (mC (.bl false))) xNx)
  f1__law_is_pack))
noncomputable def f2__law_is_pack : M Fl :=
  xFor (mWalk (mVar 0)) (.sl 2) y2__law_is_pack
noncomputable def b__law_is_pack : M Fl :=
  (xSeq (xIf (tOr (tNot (tOf (mL isiD (mCons (mVar 0) (mCons (mC (.opq (.ty "tuple"))) mNil))))) (tNot (tOf (mChain leD leD (mC (.int 1)) (mL lenD (mCons (mVar 0) mNil)) (mC (.int 12)))))) (xRet (mC (.bl false))) xNx)
  (xSeq (xOwnD 1 mD0)
  (xSeq f2__law_is_pack
  (xRet (m2 eqD (mLenDN 1) (mC (.int 1)))))))
noncomputable def m__law_is_pack : List D → FR D := runF 4 b__law_is_pack
noncomputable def b_require_index_h : M Fl :=
  (xIf (tNot (tOf (mCall m_is_integer_within 3 [] (mCons (mVar 1) (mCons (mC (.int 0)) (mCons (m2 subD (mL lenD (mCons (m1 (fldD ["System"] "own_strands") (mVar 0)) mNil)) (mC (.int 1))) mNil)))))) xNever xNx)
noncomputable def m_require_index_h : List D → FR D := runF 2 b_require_index_h
noncomputable def b_System_without_strand_h : M Fl :=
  (xSeq (xDrop (mCall m_require_index_h 2 [] (mCons (mVar 0) (mCons (mVar 1) mNil))))
  (xRet (mMake "System" m_System___init___h 1 [] (mCons (mL tupD (mStar (mSlice (m1 (fldD ["System"] "own_strands") (mVar 0)) mONone (mOSome (mVar 1))) (mStar (mSlice (m1 (fldD ["System"] "own_strands") (mVar 0)) (mOSome (m2 addD (mVar 1) (mC (.int 1)))) mONone) mNil))) mNil))))
noncomputable def m_System_without_strand_h : List D → FR D := runF 2 b_System_without_strand_h
noncomputable def y1_law_k28 : M Fl :=
  (xSeq (xPut (.sl 6) (mIo m__law_near_k28 1 3 (mCons (mVar 4) mNil)))
  (xSeq (xIf (tAnd (tOf (m2 gtD (mVar 5) (mC (.int 9)))) (tAnd (tOf (mL isiD (mCons (mVar 6) (mCons (mC (.opq (.ty "tuple"))) mNil)))) (tOf (m2 neD (mVar 6) (mL tupD mNil))))) (xPut (.sl 6) (mIf (tOf (mCall m__law_is_pack 1 [] (mCons (mVar 6) mNil))) (mIo m__law_near_k28 1 3 (mCons (mVar 6) mNil)) (mVar 6))) xNx)
  (xIf (tOf (m2 neD (mCall m__law_told_k28 1 [] (mCons (mVar 6) mNil)) (mIf (tOf (mCall m__law_is_pack 1 [] (mCons (mVar 6) mNil))) (mVar 6) (mC (.str (Str.ofString "none")))))) (xRet (mC (.bl false))) xNx)))
noncomputable def f1_law_k28 : M Fl :=
  xFor (mItL range1D (mCons (mC (.int 14)) mNil)) (.sl 5) y1_law_k28
noncomputable def y2_law_k28 : M Fl :=
  (xSeq (xOwn 3 (mCallN m__law_bowl 2 (mCons (mVar 0) (mCons (mVar 1) mNil))))
  (xSeq (xPut (.sl 4) (mIo m__law_pack 2 3 (mCons (m2 addD (mC (.int 1)) (mIo m__law_bit 1 3 (mCons (mC (.int 4)) mNil))) (mCons (mC (.int 5)) mNil))))
  (xSeq (xIf (tOf (m2 neD (mCall m__law_told_k28 1 [] (mCons (mVar 4) mNil)) (mVar 4))) (xRet (mC (.bl false))) xNx)
  f1_law_k28)))
noncomputable def f2_law_k28 : M Fl :=
  xFor (mItL range1D (mCons (mL max2D (mCons (mC (.int 1)) (mCons (mL min2D (mCons (mC (.int 8)) (mCons (mL lenD (mCons (mVar 0) mNil)) mNil))) mNil))) mNil)) (.sl 1) y2_law_k28
noncomputable def b_law_k28 : M Fl :=
  (xSeq f2_law_k28
  (xSeq (xPut (.sl 2) (mMake "System" m_System___init__ 1 [] (mCons (m2 mulD (mL tupD (mCons (mL tupD (mCons (mC (.str (Str.ofString "more"))) (mCons (mL tupD (mCons (mL tupD (mCons (mC (.int 1)) mNil)) mNil)) mNil))) mNil)) (mC (.int 12))) mNil)))
  (xSeq (xTry (xDrop (mMeth [(Str.ofString "System", m_System_with_strand)] (Str.ofString "with_strand") 3 (mVar 2) (mCons (mC (.str (Str.ofString "null"))) (mCons (mL tupD (mCons (mL tupD (mCons (mC (.int 0)) mNil)) mNil)) mNil)))) [⟨[(Str.ofString "InvalidNumber", false), (Str.ofString "InvalidSystem", true)], none, fun y => (xRet (m2 eqD (mL (lenW "System" m_System___len__) (mCons (mMeth [(Str.ofString "System", m_System_without_strand_h)] (Str.ofString "without_strand") 2 (mVar 2) (mCons (mC (.int 3)) mNil)) mNil)) (mC (.int 11))))⟩])
  (xRet (mC (.bl false))))))
noncomputable def m_law_k28 : List D → FR D := runF 7 b_law_k28
end Pm
namespace K28
open PySem PySem.Spec PyProof.Rows L2 Mr Pm
/-- what the text's top has left -/
structure Tx (P : Program) (w : World) (K : PySem.W.Frag) (mg : Str → Option Value) where
  a4 : Addr
  fd4 : FuncData
  f4 : FunD K "is_integer" "is_integer" (defArgs (topS 4)) (defBody (topS 4)) (defScope (topS 4)) [] [] a4 fd4
  g4 : mg "is_integer" = some (.ref a4)
  a6 : Addr
  fd6 : FuncData
  f6 : FunD K "is_row" "is_row" (defArgs (topS 6)) (defBody (topS 6)) (defScope (topS 6)) [] [] a6 fd6
  g6 : mg "is_row" = some (.ref a6)
  a7 : Addr
  fd7 : FuncData
  f7 : FunD K "is_row_within" "is_row_within" (defArgs (topS 7)) (defBody (topS 7)) (defScope (topS 7)) [] [] a7 fd7
  g7 : mg "is_row_within" = some (.ref a7)
  a24 : Addr
  fd24 : FuncData
  f24 : FunD K "is_strand_of" "is_strand_of" (defArgs (topS 24)) (defBody (topS 24)) (defScope (topS 24)) [] [] a24 fd24
  g24 : mg "is_strand_of" = some (.ref a24)
  a25 : Addr
  fd25 : FuncData
  f25 : FunD K "are_strands" "are_strands" (defArgs (topS 25)) (defBody (topS 25)) (defScope (topS 25)) [] [] a25 fd25
  g25 : mg "are_strands" = some (.ref a25)
  a26_0 : Addr
  fd26_0 : FuncData
  f26_0 : FunD K "__init__" "System.__init__" (defArgs (inCls (topS 26) 0)) (defBody (inCls (topS 26) 0)) (defScope (inCls (topS 26) 0)) [] [] a26_0 fd26_0
  k_System : L2.Mk K (He.ga K "System") a26_0
  a30 : Addr
  fd30 : FuncData
  f30 : FunD K "_law_bowl" "_law_bowl" (defArgs (topS 30)) (defBody (topS 30)) (defScope (topS 30)) [] [] a30 fd30
  g30 : mg "_law_bowl" = some (.ref a30)
  a31 : Addr
  fd31 : FuncData
  f31 : FunD K "_law_bit" "_law_bit" (defArgs (topS 31)) (defBody (topS 31)) (defScope (topS 31)) [] [] a31 fd31
  g31 : mg "_law_bit" = some (.ref a31)
  a32 : Addr
  fd32 : FuncData
  f32 : FunD K "_law_pick" "_law_pick" (defArgs (topS 32)) (defBody (topS 32)) (defScope (topS 32)) [] [] a32 fd32
  g32 : mg "_law_pick" = some (.ref a32)
  a34 : Addr
  fd34 : FuncData
  f34 : FunD K "_law_small" "_law_small" (defArgs (topS 34)) (defBody (topS 34)) (defScope (topS 34)) [] [] a34 fd34
  g34 : mg "_law_small" = some (.ref a34)
  a35 : Addr
  fd35 : FuncData
  f35 : FunD K "_law_line" "_law_line" (defArgs (topS 35)) (defBody (topS 35)) (defScope (topS 35)) [] [] a35 fd35
  g35 : mg "_law_line" = some (.ref a35)
  a36 : Addr
  fd36 : FuncData
  f36 : FunD K "_law_strand" "_law_strand" (defArgs (topS 36)) (defBody (topS 36)) (defScope (topS 36)) [] [] a36 fd36
  g36 : mg "_law_strand" = some (.ref a36)
  a33 : Addr
  fd33 : FuncData
  f33 : FunD K "_law_dealt" "_law_dealt" (defArgs (topS 33)) (defBody (topS 33)) (defScope (topS 33)) [] [] a33 fd33
  g33 : mg "_law_dealt" = some (.ref a33)
  a37 : Addr
  fd37 : FuncData
  f37 : FunD K "_law_pack" "_law_pack" (defArgs (topS 37)) (defBody (topS 37)) (defScope (topS 37)) [] [] a37 fd37
  g37 : mg "_law_pack" = some (.ref a37)
  a26_5 : Addr
  fd26_5 : FuncData
  f26_5 : FunD K "with_strand" "System.with_strand" (defArgs (inCls (topS 26) 5)) (defBody (inCls (topS 26) 5)) (defScope (inCls (topS 26) 5)) [] [] a26_5 fd26_5
  m_System_with_strand : Meth K (He.ga K "System") "with_strand" a26_5
  a26_1 : Addr
  fd26_1 : FuncData
  f26_1 : FunD K "strands" "System.strands" (defArgs (inCls (topS 26) 1)) (defBody (inCls (topS 26) 1)) (defScope (inCls (topS 26) 1)) [] [] a26_1 fd26_1
  p_System_strands : ∃ p, PropOf K (He.ga K "System") "strands" p a26_1
  a40 : Addr
  fd40 : FuncData
  f40 : FunD K "_law_told" "_law_told" (defArgs (topS 40)) (defBody (topS 40)) (defScope (topS 40)) [] [] a40 fd40
  g40 : mg "_law_told" = some (.ref a40)
  a41 : Addr
  fd41 : FuncData
  f41 : FunD K "_law_bent_strand" "_law_bent_strand" (defArgs (topS 41)) (defBody (topS 41)) (defScope (topS 41)) [] [] a41 fd41
  g41 : mg "_law_bent_strand" = some (.ref a41)
  a42 : Addr
  fd42 : FuncData
  f42 : FunD K "_law_near" "_law_near" (defArgs (topS 42)) (defBody (topS 42)) (defScope (topS 42)) [] [] a42 fd42
  g42 : mg "_law_near" = some (.ref a42)
  a26_10 : Addr
  fd26_10 : FuncData
  f26_10 : FunD K "__len__" "System.__len__" (defArgs (inCls (topS 26) 10)) (defBody (inCls (topS 26) 10)) (defScope (inCls (topS 26) 10)) [] [] a26_10 fd26_10
  m_System___len__ : Meth K (He.ga K "System") "__len__" a26_10
  a38 : Addr
  fd38 : FuncData
  f38 : FunD K "_law_is_line" "_law_is_line" (defArgs (topS 38)) (defBody (topS 38)) (defScope (topS 38)) [] [] a38 fd38
  g38 : mg "_law_is_line" = some (.ref a38)
  a39 : Addr
  fd39 : FuncData
  f39 : FunD K "_law_is_pack" "_law_is_pack" (defArgs (topS 39)) (defBody (topS 39)) (defScope (topS 39)) [] [] a39 fd39
  g39 : mg "_law_is_pack" = some (.ref a39)
  a5 : Addr
  fd5 : FuncData
  f5 : FunD K "is_integer_within" "is_integer_within" (defArgs (topS 5)) (defBody (topS 5)) (defScope (topS 5)) [] [] a5 fd5
  g5 : mg "is_integer_within" = some (.ref a5)
  a27 : Addr
  fd27 : FuncData
  f27 : FunD K "require_index" "require_index" (defArgs (topS 27)) (defBody (topS 27)) (defScope (topS 27)) [] [] a27 fd27
  g27 : mg "require_index" = some (.ref a27)
  a26_6 : Addr
  fd26_6 : FuncData
  f26_6 : FunD K "without_strand" "System.without_strand" (defArgs (inCls (topS 26) 6)) (defBody (inCls (topS 26) 6)) (defScope (inCls (topS 26) 6)) [] [] a26_6 fd26_6
  m_System_without_strand : Meth K (He.ga K "System") "without_strand" a26_6
  a43 : Addr
  fd43 : FuncData
  f43 : FunD K "law" "law" (defArgs (topS 43)) (defBody (topS 43)) (defScope (topS 43)) [] [] a43 fd43
  g43 : mg "law" = some (.ref a43)
  o_InvalidNumber : mg "InvalidNumber" = some (.ref (He.ga K "InvalidNumber"))
  o_InvalidSystem : mg "InvalidSystem" = some (.ref (He.ga K "InvalidSystem"))
  o_System : mg "System" = some (.ref (He.ga K "System"))
  cl_System : Cls K (He.ga K "System")
  e_InvalidSystem : ExcF K "InvalidSystem"
  r_InvalidNumber : ErrI P K (He.ga K "InvalidNumber") (meA "InvalidNumber" "__init__" K) "value" "value" "the number is not as expected" "IndexError" "IndexError.__new__" "IndexError.__init__" bmIndex
  x_InvalidNumber_InvalidSystem : PySem.W.exmOne K (.ref (He.ga K "InvalidNumber")) (.ref (He.ga K "InvalidSystem")) = some false
  x_InvalidSystem_InvalidSystem : PySem.W.exmOne K (.ref (He.ga K "InvalidSystem")) (.ref (He.ga K "InvalidSystem")) = some true
  f_System_own_strands : ClsF K "System" ["own_strands"]
  f_System_own_width : ClsF K "System" ["own_width"]
  t3 : Tok
  c_GREATEST : mg "GREATEST" = some (.int c_GREATEST t3)
  t20 : Tok
  c_LEAST : mg "LEAST" = some (.str c_LEAST t20)
  t17 : Tok
  c_MAX_ROWS : mg "MAX_ROWS" = some (.int c_MAX_ROWS t17)
  t18 : Tok
  c_MAX_SIZE : mg "MAX_SIZE" = some (.int c_MAX_SIZE t18)
  t16 : Tok
  c_MAX_STRANDS : mg "MAX_STRANDS" = some (.int c_MAX_STRANDS t16)
  t15 : Tok
  c_MAX_WIDTH : mg "MAX_WIDTH" = some (.int c_MAX_WIDTH t15)
  t19 : Tok
  c_MORE : mg "MORE" = some (.str c_MORE t19)
  t21 : Tok
  c_NULL : mg "NULL" = some (.str c_NULL t21)
  t2 : Tok
  c_WIDEST : mg "WIDEST" = some (.int c_WIDEST t2)
  n_abs : mg "abs" = none
  n_all : mg "all" = none
  n_any : mg "any" = none
  n_bool : mg "bool" = none
  n_int : mg "int" = none
  n_isinstance : mg "isinstance" = none
  n_len : mg "len" = none
  n_list : mg "list" = none
  n_max : mg "max" = none
  n_min : mg "min" = none
  n_range : mg "range" = none
  n_repr : mg "repr" = none
  n_str : mg "str" = none
  n_super : mg "super" = none
  n_tuple : mg "tuple" = none
section
variable {P : Program} {w : World} {K : PySem.W.Frag} {mg : Str → Option Value} {base : Heap}
abbrev s_is_integer : Stmt := topS 4
theorem sc_is_integer : FnScope ["value"] ["value"] (defScope s_is_integer) := ⟨rfl, rfl, rfl, by decide +kernel, rfl, by decide +kernel, by decide +kernel⟩
theorem bd_is_integer (T : Tx P w K mg) : Binds K T.fd4 ["value"] [] := T.f4.bindsN fun _ _ _ _ _ _ us hl => match us, hl with | [_], _ => rfl
theorem ok_is_integer (T : Tx P w K mg) : FnG P w K mg base 1 T.a4 T.fd4 ["value"] (PSp K 1 m_is_integer) := by
  refine fn_val (N := ["value"]) T.f4 sc_is_integer rfl fun cdv hcd A outer s H E hr => ?_
  have tk := L2N.takes_of (X := cxOf (L2N.CX P w) P w K mg base ["value"] "is_integer" (defScope s_is_integer) T.a4 cdv A outer s H E) (E := E) rfl rfl rfl rfl
  have hp := passes_of (X := cxOf (L2N.CX P w) P w K mg base ["value"] "is_integer" (defScope s_is_integer) T.a4 cdv A outer s H E) rfl
  have hu := hr.units
  exact (AB.one (AS.ret (AE.and (AE.blt CA.isi (by rfl) T.n_isinstance (by decide +kernel) (AA.cons (AE.var (pv 0)) (AA.cons (AE.ty (T := "int") (by rfl) T.n_int (by decide +kernel)) AA.nil))) (AE.and (AE.not (AE.blt CA.isi (by rfl) T.n_isinstance (by decide +kernel) (AA.cons (AE.var (pv 0)) (AA.cons (AE.ty (T := "bool") (by rfl) T.n_bool (by decide +kernel)) AA.nil)))) (AE.one (AE.chain OA.le OA.le (AE.un UA.neg (AE.gint rfl T.c_GREATEST)) (AE.var (pv 0)) (AE.gint rfl T.c_GREATEST)))))))
theorem okh_is_integer (T : Tx P w K mg) : FnGH P w K mg base 1 T.a4 T.fd4 ["value"] (PSp K 1 m_is_integer) := by
  refine fn_valH (k := 0) (N := ["value"]) T.f4 sc_is_integer rfl fun cdv hcd A outer s H E p hot hr => ?_
  have tk := L2N.takes_of (X := L2H.cxH (L2N.CX P w) P w K mg base ["value"] "is_integer" (defScope s_is_integer) T.a4 cdv A outer s H E p) (E := E) rfl rfl rfl rfl
  have hp := passes_of (X := L2H.cxH (L2N.CX P w) P w K mg base ["value"] "is_integer" (defScope s_is_integer) T.a4 cdv A outer s H E p) rfl
  have hh : L2H.HotC (L2H.cxH (L2N.CX P w) P w K mg base ["value"] "is_integer" (defScope s_is_integer) T.a4 cdv A outer s H E p) := ⟨p, hot, List.mem_cons_self ..⟩
  have hu := hr.units
  exact (AB.one (AS.ret (AE.and (AE.blt CA.isi (by rfl) T.n_isinstance (by decide +kernel) (AA.cons (AE.var (pv 0)) (AA.cons (AE.ty (T := "int") (by rfl) T.n_int (by decide +kernel)) AA.nil))) (AE.and (AE.not (AE.blt CA.isi (by rfl) T.n_isinstance (by decide +kernel) (AA.cons (AE.var (pv 0)) (AA.cons (AE.ty (T := "bool") (by rfl) T.n_bool (by decide +kernel)) AA.nil)))) (AE.one (AE.chain OA.le OA.le (AE.un UA.neg (AE.gint rfl T.c_GREATEST)) (AE.var (pv 0)) (AE.gint rfl T.c_GREATEST)))))))
abbrev s_is_row : Stmt := topS 6
theorem sc_is_row : FnScope ["value", "number"] ["value"] (defScope s_is_row) := ⟨rfl, rfl, rfl, by decide +kernel, rfl, by decide +kernel, by decide +kernel⟩
theorem bd_is_row (T : Tx P w K mg) : Binds K T.fd6 ["value"] [] := T.f6.bindsN fun _ _ _ _ _ _ us hl => match us, hl with | [_], _ => rfl
theorem ok_is_row (T : Tx P w K mg) : FnG P w K mg base 2 T.a6 T.fd6 ["value"] (PSp K 1 m_is_row) := by
  refine fn_val (N := ["value", "number"]) T.f6 sc_is_row rfl fun cdv hcd A outer s H E hr => ?_
  have tk := L2N.takes_of (X := cxOf (L2N.CX P w) P w K mg base ["value", "number"] "is_row" (defScope s_is_row) T.a6 cdv A outer s H E) (E := E) rfl rfl rfl rfl
  have hp := passes_of (X := cxOf (L2N.CX P w) P w K mg base ["value", "number"] "is_row" (defScope s_is_row) T.a6 cdv A outer s H E) rfl
  have hu := hr.units
  exact (AB.cons (AS.if_ (AW.pt (AW.or (AT.not (AT.val (AE.blt CA.isi (by rfl) T.n_isinstance (by decide +kernel) (AA.cons (AE.var (pv 0)) (AA.cons (AE.ty (T := "tuple") (by rfl) T.n_tuple (by decide +kernel)) AA.nil))))) (AW.or1 (AT.not (AT.chain OA.le OA.le AE.int (AE.blt CA.len (by rfl) T.n_len PySem.boot_len (AA.cons (AE.var (pv 0)) AA.nil)) (AE.gint rfl T.c_WIDEST)))))) (AB.one (AS.ret AE.bl)) AB.nil)
    (AB.one (AS.ret (AE.blt (CA.all rfl) (by rfl) T.n_all (by decide +kernel) (AA.cons (AE.ofN (AN.lc (own := [("number", 1)]) (t := (.sl 1)) rfl sc_is_row.nd (AI.any (AE.var (pv 0))) (blkOk_by (N := ["value", "number"]) (sc := defScope s_is_row) (by decide +kernel)) (by decide) (fun _ _ _ _ _ => (AG.name sc_is_row.nd rfl (by first | exact .inl rfl | exact .inr rfl))) (fun _ _ _ _ _ => ATs.nil) (fun _ _ _ _ _ => (AE.call (ok_is_integer T) (hr.mono (by decide)) (by rfl) T.g4 T.f4.kp (bd_is_integer T) .nil (fun _ _ => .nil) takes0N (AA.cons (AE.var (pv 1)) AA.nil))))) AA.nil)))))
theorem okh_is_row (T : Tx P w K mg) : FnGH P w K mg base 2 T.a6 T.fd6 ["value"] (PSp K 1 m_is_row) := by
  refine fn_valH (k := 1) (N := ["value", "number"]) T.f6 sc_is_row rfl fun cdv hcd A outer s H E p hot hr => ?_
  have tk := L2N.takes_of (X := L2H.cxH (L2N.CX P w) P w K mg base ["value", "number"] "is_row" (defScope s_is_row) T.a6 cdv A outer s H E p) (E := E) rfl rfl rfl rfl
  have hp := passes_of (X := L2H.cxH (L2N.CX P w) P w K mg base ["value", "number"] "is_row" (defScope s_is_row) T.a6 cdv A outer s H E p) rfl
  have hh : L2H.HotC (L2H.cxH (L2N.CX P w) P w K mg base ["value", "number"] "is_row" (defScope s_is_row) T.a6 cdv A outer s H E p) := ⟨p, hot, List.mem_cons_self ..⟩
  have hu := hr.units
  exact (AB.cons (AS.if_ (AW.pt (AW.or (AT.not (AT.val (AE.blt CA.isi (by rfl) T.n_isinstance (by decide +kernel) (AA.cons (AE.var (pv 0)) (AA.cons (AE.ty (T := "tuple") (by rfl) T.n_tuple (by decide +kernel)) AA.nil))))) (AW.or1 (AT.not (AT.chain OA.le OA.le AE.int (AE.blt CA.len (by rfl) T.n_len PySem.boot_len (AA.cons (AE.var (pv 0)) AA.nil)) (AE.gint rfl T.c_WIDEST)))))) (AB.one (AS.ret AE.bl)) AB.nil)
    (AB.one (AS.ret (AE.blt (CA.allH hh) (by rfl) T.n_all (by decide +kernel) (AA.cons (AE.ofN (AN.lcH (own := [("number", 1)]) (t := (.sl 1)) hh sc_is_row.nd (AIH.any (AE.var (pv 0))) (blkOk_by (N := ["value", "number"]) (sc := defScope s_is_row) (by decide +kernel)) (by decide) (fun _ _ _ _ _ => (AG.name sc_is_row.nd rfl (by first | exact .inl rfl | exact .inr rfl))) (fun _ _ _ _ _ => ATs.nil) (fun _ _ _ _ _ => (AE.callH (okh_is_integer T) (hr.mono (by decide)) hh (by rfl) T.g4 T.f4.kp (bd_is_integer T) .nil (fun _ _ => .nil) takes0N (AA.cons (AE.var (pv 1)) AA.nil))))) AA.nil)))))
abbrev s_is_row_within : Stmt := topS 7
theorem sc_is_row_within : FnScope ["value", "width", "most", "number"] ["value", "width", "most"] (defScope s_is_row_within) := ⟨rfl, rfl, rfl, by decide +kernel, rfl, by decide +kernel, by decide +kernel⟩
theorem bd_is_row_within (T : Tx P w K mg) : Binds K T.fd7 ["value", "width", "most"] [] := T.f7.bindsN fun _ _ _ _ _ _ us hl => match us, hl with | [_, _, _], _ => rfl
theorem ok_is_row_within (T : Tx P w K mg) : FnG P w K mg base 3 T.a7 T.fd7 ["value", "width", "most"] (PSp K 3 m_is_row_within) := by
  refine fn_val (N := ["value", "width", "most", "number"]) T.f7 sc_is_row_within rfl fun cdv hcd A outer s H E hr => ?_
  have tk := L2N.takes_of (X := cxOf (L2N.CX P w) P w K mg base ["value", "width", "most", "number"] "is_row_within" (defScope s_is_row_within) T.a7 cdv A outer s H E) (E := E) rfl rfl rfl rfl
  have hp := passes_of (X := cxOf (L2N.CX P w) P w K mg base ["value", "width", "most", "number"] "is_row_within" (defScope s_is_row_within) T.a7 cdv A outer s H E) rfl
  have hu := hr.units
  exact (AB.one (AS.ret (AE.and (AE.call (ok_is_row T) (hr.mono (by decide)) (by rfl) T.g6 T.f6.kp (bd_is_row T) .nil (fun _ _ => .nil) tk (AA.cons (AE.var (pv 0)) AA.nil)) (AE.and (AE.cmp (OA.eq hu) (AE.blt CA.len (by rfl) T.n_len PySem.boot_len (AA.cons (AE.var (pv 0)) AA.nil)) (AE.var (pv 1)) (nomark _)) (AE.one (AE.blt (CA.all rfl) (by rfl) T.n_all (by decide +kernel) (AA.cons (AE.ofN (AN.lc (own := [("number", 3)]) (t := (.sl 3)) rfl sc_is_row_within.nd (AI.any (AE.var (pv 0))) (blkOk_by (N := ["value", "width", "most", "number"]) (sc := defScope s_is_row_within) (by decide +kernel)) (by decide) (fun _ _ _ _ _ => (AG.name sc_is_row_within.nd rfl (by first | exact .inl rfl | exact .inr rfl))) (fun _ _ _ _ _ => ATs.nil) (fun _ _ _ _ _ => (AE.chain OA.le OA.le (AE.un UA.neg (AE.var (pv 2))) (AE.var (pv 3)) (AE.var (pv 2)))))) AA.nil)))))))
theorem okh_is_row_within (T : Tx P w K mg) : FnGH P w K mg base 3 T.a7 T.fd7 ["value", "width", "most"] (PSp K 3 m_is_row_within) := by
  refine fn_valH (k := 2) (N := ["value", "width", "most", "number"]) T.f7 sc_is_row_within rfl fun cdv hcd A outer s H E p hot hr => ?_
  have tk := L2N.takes_of (X := L2H.cxH (L2N.CX P w) P w K mg base ["value", "width", "most", "number"] "is_row_within" (defScope s_is_row_within) T.a7 cdv A outer s H E p) (E := E) rfl rfl rfl rfl
  have hp := passes_of (X := L2H.cxH (L2N.CX P w) P w K mg base ["value", "width", "most", "number"] "is_row_within" (defScope s_is_row_within) T.a7 cdv A outer s H E p) rfl
  have hh : L2H.HotC (L2H.cxH (L2N.CX P w) P w K mg base ["value", "width", "most", "number"] "is_row_within" (defScope s_is_row_within) T.a7 cdv A outer s H E p) := ⟨p, hot, List.mem_cons_self ..⟩
  have hu := hr.units
  exact (AB.one (AS.ret (AE.and (AE.callH (okh_is_row T) (hr.mono (by decide)) hh (by rfl) T.g6 T.f6.kp (bd_is_row T) .nil (fun _ _ => .nil) tk (AA.cons (AE.var (pv 0)) AA.nil)) (AE.and (AE.cmp (OA.eq hu) (AE.blt CA.len (by rfl) T.n_len PySem.boot_len (AA.cons (AE.var (pv 0)) AA.nil)) (AE.var (pv 1)) (nomark _)) (AE.one (AE.blt (CA.allH hh) (by rfl) T.n_all (by decide +kernel) (AA.cons (AE.ofN (AN.lcH (own := [("number", 3)]) (t := (.sl 3)) hh sc_is_row_within.nd (AIH.any (AE.var (pv 0))) (blkOk_by (N := ["value", "width", "most", "number"]) (sc := defScope s_is_row_within) (by decide +kernel)) (by decide) (fun _ _ _ _ _ => (AG.name sc_is_row_within.nd rfl (by first | exact .inl rfl | exact .inr rfl))) (fun _ _ _ _ _ => ATs.nil) (fun _ _ _ _ _ => (AE.chain OA.le OA.le (AE.un UA.neg (AE.var (pv 2))) (AE.var (pv 3)) (AE.var (pv 2)))))) AA.nil)))))))
abbrev s_is_strand_of : Stmt := topS 24
theorem sc_is_strand_of : FnScope ["value", "width", "sign", "rows", "row"] ["value", "width"] (defScope s_is_strand_of) := ⟨rfl, rfl, rfl, by decide +kernel, rfl, by decide +kernel, by decide +kernel⟩
theorem bd_is_strand_of (T : Tx P w K mg) : Binds K T.fd24 ["value", "width"] [] := T.f24.bindsN fun _ _ _ _ _ _ us hl => match us, hl with | [_, _], _ => rfl
theorem ok_is_strand_of (T : Tx P w K mg) : FnG P w K mg base 4 T.a24 T.fd24 ["value", "width"] (PSp K 2 m_is_strand_of) := by
  refine fn_val (N := ["value", "width", "sign", "rows", "row"]) T.f24 sc_is_strand_of rfl fun cdv hcd A outer s H E hr => ?_
  have tk := L2N.takes_of (X := cxOf (L2N.CX P w) P w K mg base ["value", "width", "sign", "rows", "row"] "is_strand_of" (defScope s_is_strand_of) T.a24 cdv A outer s H E) (E := E) rfl rfl rfl rfl
  have hp := passes_of (X := cxOf (L2N.CX P w) P w K mg base ["value", "width", "sign", "rows", "row"] "is_strand_of" (defScope s_is_strand_of) T.a24 cdv A outer s H E) rfl
  have hu := hr.units
  exact (AB.cons (AS.if_ (AW.pt (AW.or (AT.not (AT.val (AE.blt CA.isi (by rfl) T.n_isinstance (by decide +kernel) (AA.cons (AE.var (pv 0)) (AA.cons (AE.ty (T := "tuple") (by rfl) T.n_tuple (by decide +kernel)) AA.nil))))) (AW.or (AT.cmp (OA.ne hu) (AE.blt CA.len (by rfl) T.n_len PySem.boot_len (AA.cons (AE.var (pv 0)) AA.nil)) AE.int (nomark _)) (AW.or1 (AT.not (AT.val (AE.blt CA.isi (by rfl) T.n_isinstance (by decide +kernel) (AA.cons (AE.ix (AE.var (pv 0)) AE.int) (AA.cons (AE.ty (T := "str") (by rfl) T.n_str (by decide +kernel)) AA.nil))))))))) (AB.one (AS.ret AE.bl)) AB.nil)
    (AB.cons (AS.asg (AE.var (pv 0)) (AG.tup rfl (AGs.cons (AG.name sc_is_strand_of.nd rfl (.inl rfl)) (AGs.cons (AG.name sc_is_strand_of.nd rfl (.inl rfl)) AGs.nil))))
    (AB.cons (AS.if_ (AW.pt (AW.or (AT.cmp (OA.notIn hu) (AE.var (pv 2)) (AE.tup (AA.cons (AE.gstr rfl T.c_MORE) (AA.cons (AE.gstr rfl T.c_LEAST) (AA.cons (AE.gstr rfl T.c_NULL) AA.nil)))) rfl) (AW.or (AT.not (AT.val (AE.blt CA.isi (by rfl) T.n_isinstance (by decide +kernel) (AA.cons (AE.var (pv 3)) (AA.cons (AE.ty (T := "tuple") (by rfl) T.n_tuple (by decide +kernel)) AA.nil))))) (AW.or1 (AT.not (AT.chain OA.le OA.le AE.int (AE.blt CA.len (by rfl) T.n_len PySem.boot_len (AA.cons (AE.var (pv 3)) AA.nil)) (AE.gint rfl T.c_MAX_ROWS))))))) (AB.one (AS.ret AE.bl)) AB.nil)
    (AB.one (AS.ret (AE.blt (CA.all rfl) (by rfl) T.n_all (by decide +kernel) (AA.cons (AE.ofN (AN.lc (own := [("row", 4)]) (t := (.sl 4)) rfl sc_is_strand_of.nd (AI.any (AE.var (pv 3))) (blkOk_by (N := ["value", "width", "sign", "rows", "row"]) (sc := defScope s_is_strand_of) (by decide +kernel)) (by decide) (fun _ _ _ _ _ => (AG.name sc_is_strand_of.nd rfl (by first | exact .inl rfl | exact .inr rfl))) (fun _ _ _ _ _ => ATs.nil) (fun _ _ _ _ _ => (AE.call (ok_is_row_within T) (hr.mono (by decide)) (by rfl) T.g7 T.f7.kp (bd_is_row_within T) .nil (fun _ _ => .nil) takes0N (AA.cons (AE.var (pv 4)) (AA.cons (AE.var (pv 1)) (AA.cons (AE.gint rfl T.c_MAX_SIZE) AA.nil))))))) AA.nil)))))))
theorem okh_is_strand_of (T : Tx P w K mg) : FnGH P w K mg base 4 T.a24 T.fd24 ["value", "width"] (PSp K 2 m_is_strand_of) := by
  refine fn_valH (k := 3) (N := ["value", "width", "sign", "rows", "row"]) T.f24 sc_is_strand_of rfl fun cdv hcd A outer s H E p hot hr => ?_
  have tk := L2N.takes_of (X := L2H.cxH (L2N.CX P w) P w K mg base ["value", "width", "sign", "rows", "row"] "is_strand_of" (defScope s_is_strand_of) T.a24 cdv A outer s H E p) (E := E) rfl rfl rfl rfl
  have hp := passes_of (X := L2H.cxH (L2N.CX P w) P w K mg base ["value", "width", "sign", "rows", "row"] "is_strand_of" (defScope s_is_strand_of) T.a24 cdv A outer s H E p) rfl
  have hh : L2H.HotC (L2H.cxH (L2N.CX P w) P w K mg base ["value", "width", "sign", "rows", "row"] "is_strand_of" (defScope s_is_strand_of) T.a24 cdv A outer s H E p) := ⟨p, hot, List.mem_cons_self ..⟩
  have hu := hr.units
  exact (AB.cons (AS.if_ (AW.pt (AW.or (AT.not (AT.val (AE.blt CA.isi (by rfl) T.n_isinstance (by decide +kernel) (AA.cons (AE.var (pv 0)) (AA.cons (AE.ty (T := "tuple") (by rfl) T.n_tuple (by decide +kernel)) AA.nil))))) (AW.or (AT.cmp (OA.ne hu) (AE.blt CA.len (by rfl) T.n_len PySem.boot_len (AA.cons (AE.var (pv 0)) AA.nil)) AE.int (nomark _)) (AW.or1 (AT.not (AT.val (AE.blt CA.isi (by rfl) T.n_isinstance (by decide +kernel) (AA.cons (AE.ix (AE.var (pv 0)) AE.int) (AA.cons (AE.ty (T := "str") (by rfl) T.n_str (by decide +kernel)) AA.nil))))))))) (AB.one (AS.ret AE.bl)) AB.nil)
    (AB.cons (AS.asg (AE.var (pv 0)) (AG.tupH hh (AGs.cons (AG.name sc_is_strand_of.nd rfl (.inl rfl)) (AGs.cons (AG.name sc_is_strand_of.nd rfl (.inl rfl)) AGs.nil))))
    (AB.cons (AS.if_ (AW.pt (AW.or (AT.cmp (OA.notIn hu) (AE.var (pv 2)) (AE.tup (AA.cons (AE.gstr rfl T.c_MORE) (AA.cons (AE.gstr rfl T.c_LEAST) (AA.cons (AE.gstr rfl T.c_NULL) AA.nil)))) rfl) (AW.or (AT.not (AT.val (AE.blt CA.isi (by rfl) T.n_isinstance (by decide +kernel) (AA.cons (AE.var (pv 3)) (AA.cons (AE.ty (T := "tuple") (by rfl) T.n_tuple (by decide +kernel)) AA.nil))))) (AW.or1 (AT.not (AT.chain OA.le OA.le AE.int (AE.blt CA.len (by rfl) T.n_len PySem.boot_len (AA.cons (AE.var (pv 3)) AA.nil)) (AE.gint rfl T.c_MAX_ROWS))))))) (AB.one (AS.ret AE.bl)) AB.nil)
    (AB.one (AS.ret (AE.blt (CA.allH hh) (by rfl) T.n_all (by decide +kernel) (AA.cons (AE.ofN (AN.lcH (own := [("row", 4)]) (t := (.sl 4)) hh sc_is_strand_of.nd (AIH.any (AE.var (pv 3))) (blkOk_by (N := ["value", "width", "sign", "rows", "row"]) (sc := defScope s_is_strand_of) (by decide +kernel)) (by decide) (fun _ _ _ _ _ => (AG.name sc_is_strand_of.nd rfl (by first | exact .inl rfl | exact .inr rfl))) (fun _ _ _ _ _ => ATs.nil) (fun _ _ _ _ _ => (AE.callH (okh_is_row_within T) (hr.mono (by decide)) hh (by rfl) T.g7 T.f7.kp (bd_is_row_within T) .nil (fun _ _ => .nil) takes0N (AA.cons (AE.var (pv 4)) (AA.cons (AE.var (pv 1)) (AA.cons (AE.gint rfl T.c_MAX_SIZE) AA.nil))))))) AA.nil)))))))
abbrev s_are_strands : Stmt := topS 25
theorem sc_are_strands : FnScope ["value", "width", "strand"] ["value"] (defScope s_are_strands) := ⟨rfl, rfl, rfl, by decide +kernel, rfl, by decide +kernel, by decide +kernel⟩
theorem bd_are_strands (T : Tx P w K mg) : Binds K T.fd25 ["value"] [] := T.f25.bindsN fun _ _ _ _ _ _ us hl => match us, hl with | [_], _ => rfl
theorem ok_are_strands (T : Tx P w K mg) : FnG P w K mg base 5 T.a25 T.fd25 ["value"] (PSp K 1 m_are_strands) := by
  refine fn_val (N := ["value", "width", "strand"]) T.f25 sc_are_strands rfl fun cdv hcd A outer s H E hr => ?_
  have tk := L2N.takes_of (X := cxOf (L2N.CX P w) P w K mg base ["value", "width", "strand"] "are_strands" (defScope s_are_strands) T.a25 cdv A outer s H E) (E := E) rfl rfl rfl rfl
  have hp := passes_of (X := cxOf (L2N.CX P w) P w K mg base ["value", "width", "strand"] "are_strands" (defScope s_are_strands) T.a25 cdv A outer s H E) rfl
  have hu := hr.units
  exact (AB.cons (AS.if_ (AW.pt (AW.or (AT.not (AT.val (AE.blt CA.isi (by rfl) T.n_isinstance (by decide +kernel) (AA.cons (AE.var (pv 0)) (AA.cons (AE.ty (T := "tuple") (by rfl) T.n_tuple (by decide +kernel)) AA.nil))))) (AW.or1 (AT.not (AT.chain OA.le OA.le AE.int (AE.blt CA.len (by rfl) T.n_len PySem.boot_len (AA.cons (AE.var (pv 0)) AA.nil)) (AE.gint rfl T.c_MAX_STRANDS)))))) (AB.one (AS.ret AE.bl)) AB.nil)
    (AB.one (AS.ret (AE.blt (CA.any rfl) (by rfl) T.n_any (by decide +kernel) (AA.cons (AE.ofN (AN.lc (own := [("width", 1)]) (t := (.sl 1)) rfl sc_are_strands.nd (AI.range2 (by rfl) T.n_range (AA.cons AE.int (AA.cons (AE.bin OA.add (AE.gint rfl T.c_MAX_WIDTH) AE.int) AA.nil))) (blkOk_by (N := ["value", "width", "strand"]) (sc := defScope s_are_strands) (by decide +kernel)) (by decide) (fun _ _ _ _ _ => (AG.name sc_are_strands.nd rfl (by first | exact .inl rfl | exact .inr rfl))) (fun _ _ _ _ _ => ATs.nil) (fun _ _ _ _ _ => (AE.blt (CA.all rfl) (by rfl) T.n_all (by decide +kernel) (AA.cons (AE.ofN (AN.lc (own := [("strand", 2)]) (t := (.sl 2)) rfl sc_are_strands.nd (AI.any (AE.var (pv 0))) (blkOk_by (N := ["value", "width", "strand"]) (by kernel_rfl)) (by decide) (fun _ _ _ _ _ => (AG.name sc_are_strands.nd rfl (by first | exact .inl rfl | exact .inr rfl))) (fun _ _ _ _ _ => ATs.nil) (fun _ _ _ _ _ => (AE.call (ok_is_strand_of T) (hr.mono (by decide)) (by rfl) T.g24 T.f24.kp (bd_is_strand_of T) .nil (fun _ _ => .nil) takes0N (AA.cons (AE.var (pv 2)) (AA.cons (AE.var (pv 1)) AA.nil)))))) AA.nil))))) AA.nil)))))
theorem okh_are_strands (T : Tx P w K mg) : FnGH P w K mg base 5 T.a25 T.fd25 ["value"] (PSp K 1 m_are_strands) := by
  refine fn_valH (k := 4) (N := ["value", "width", "strand"]) T.f25 sc_are_strands rfl fun cdv hcd A outer s H E p hot hr => ?_
  have tk := L2N.takes_of (X := L2H.cxH (L2N.CX P w) P w K mg base ["value", "width", "strand"] "are_strands" (defScope s_are_strands) T.a25 cdv A outer s H E p) (E := E) rfl rfl rfl rfl
  have hp := passes_of (X := L2H.cxH (L2N.CX P w) P w K mg base ["value", "width", "strand"] "are_strands" (defScope s_are_strands) T.a25 cdv A outer s H E p) rfl
  have hh : L2H.HotC (L2H.cxH (L2N.CX P w) P w K mg base ["value", "width", "strand"] "are_strands" (defScope s_are_strands) T.a25 cdv A outer s H E p) := ⟨p, hot, List.mem_cons_self ..⟩
  have hu := hr.units
  exact (AB.cons (AS.if_ (AW.pt (AW.or (AT.not (AT.val (AE.blt CA.isi (by rfl) T.n_isinstance (by decide +kernel) (AA.cons (AE.var (pv 0)) (AA.cons (AE.ty (T := "tuple") (by rfl) T.n_tuple (by decide +kernel)) AA.nil))))) (AW.or1 (AT.not (AT.chain OA.le OA.le AE.int (AE.blt CA.len (by rfl) T.n_len PySem.boot_len (AA.cons (AE.var (pv 0)) AA.nil)) (AE.gint rfl T.c_MAX_STRANDS)))))) (AB.one (AS.ret AE.bl)) AB.nil)
    (AB.one (AS.ret (AE.blt (CA.anyH hh) (by rfl) T.n_any (by decide +kernel) (AA.cons (AE.ofN (AN.lcH (own := [("width", 1)]) (t := (.sl 1)) hh sc_are_strands.nd (AIH.range2 (by rfl) T.n_range (AA.cons AE.int (AA.cons (AE.bin OA.add (AE.gint rfl T.c_MAX_WIDTH) AE.int) AA.nil))) (blkOk_by (N := ["value", "width", "strand"]) (sc := defScope s_are_strands) (by decide +kernel)) (by decide) (fun _ _ _ _ _ => (AG.name sc_are_strands.nd rfl (by first | exact .inl rfl | exact .inr rfl))) (fun _ _ _ _ _ => ATs.nil) (fun _ _ _ _ _ => (AE.blt (CA.allH hh) (by rfl) T.n_all (by decide +kernel) (AA.cons (AE.ofN (AN.lcH (own := [("strand", 2)]) (t := (.sl 2)) hh sc_are_strands.nd (AIH.any (AE.var (pv 0))) (blkOk_by (N := ["value", "width", "strand"]) (by kernel_rfl)) (by decide) (fun _ _ _ _ _ => (AG.name sc_are_strands.nd rfl (by first | exact .inl rfl | exact .inr rfl))) (fun _ _ _ _ _ => ATs.nil) (fun _ _ _ _ _ => (AE.callH (okh_is_strand_of T) (hr.mono (by decide)) hh (by rfl) T.g24 T.f24.kp (bd_is_strand_of T) .nil (fun _ _ => .nil) takes0N (AA.cons (AE.var (pv 2)) (AA.cons (AE.var (pv 1)) AA.nil)))))) AA.nil))))) AA.nil)))))
abbrev s_System___init__ : Stmt := inCls (topS 26) 0
theorem sc_System___init__ : FnScope ["self", "strands"] ["self", "strands"] (defScope s_System___init__) := ⟨rfl, rfl, rfl, by decide +kernel, rfl, by decide +kernel, by decide +kernel⟩
theorem bd_System___init__ (T : Tx P w K mg) : Binds K T.fd26_0 ["self", "strands"] [] := T.f26_0.bindsN fun _ _ _ _ _ _ us hl => match us, hl with | [_, _], _ => rfl
theorem ok_System___init__ (T : Tx P w K mg) : FnG P w K mg base 6 T.a26_0 T.fd26_0 ["self", "strands"] (ISp K 1 m_System___init__) := by
  refine fn_io (N := ["self", "strands"]) T.f26_0 sc_System___init__ rfl fun cdv hcd A outer s H E hr => ?_
  have tk := L2N.takes_of (X := cxOf (L2N.CX P w) P w K mg base ["self", "strands"] "System.__init__" (defScope s_System___init__) T.a26_0 cdv A outer s H E) (E := E) rfl rfl rfl rfl
  have hp := passes_of (X := cxOf (L2N.CX P w) P w K mg base ["self", "strands"] "System.__init__" (defScope s_System___init__) T.a26_0 cdv A outer s H E) rfl
  have hu := hr.units
  exact (AB.cons (AS.if_ (AT.not (AT.val (AE.call (ok_are_strands T) (hr.mono (by decide)) (by rfl) T.g25 T.f25.kp (bd_are_strands T) .nil (fun _ _ => .nil) tk (AA.cons (AE.var (pv 1)) AA.nil)))) (AB.one (AS.raise rfl tk T.e_InvalidSystem T.o_InvalidSystem rfl)) AB.nil)
    (AB.cons (AS.fld (AE.var (pv 1)) (pv 0) T.f_System_own_strands)
    (AB.one (AS.fld (AE.blt CA.len (by rfl) T.n_len PySem.boot_len (AA.cons (AE.ix (AE.ix (AE.ix (AE.var (pv 1)) AE.int) AE.int) AE.int) AA.nil)) (pv 0) T.f_System_own_width))))
theorem okh_System___init__ (T : Tx P w K mg) : FnGH P w K mg base 6 T.a26_0 T.fd26_0 ["self", "strands"] (ISp K 1 m_System___init___h) := by
  refine fn_ioH (k := 5) (N := ["self", "strands"]) T.f26_0 sc_System___init__ rfl fun cdv hcd A outer s H E p hot hr => ?_
  have tk := L2N.takes_of (X := L2H.cxH (L2N.CX P w) P w K mg base ["self", "strands"] "System.__init__" (defScope s_System___init__) T.a26_0 cdv A outer s H E p) (E := E) rfl rfl rfl rfl
  have hp := passes_of (X := L2H.cxH (L2N.CX P w) P w K mg base ["self", "strands"] "System.__init__" (defScope s_System___init__) T.a26_0 cdv A outer s H E p) rfl
  have hh : L2H.HotC (L2H.cxH (L2N.CX P w) P w K mg base ["self", "strands"] "System.__init__" (defScope s_System___init__) T.a26_0 cdv A outer s H E p) := ⟨p, hot, List.mem_cons_self ..⟩
  have hu := hr.units
  exact (AB.cons (AS.if_ (AT.not (AT.val (AE.callH (okh_are_strands T) (hr.mono (by decide)) hh (by rfl) T.g25 T.f25.kp (bd_are_strands T) .nil (fun _ _ => .nil) tk (AA.cons (AE.var (pv 1)) AA.nil)))) (AB.one AS.never) AB.nil)
    (AB.cons (AS.fld (AE.var (pv 1)) (pv 0) T.f_System_own_strands)
    (AB.one (AS.fld (AE.blt CA.len (by rfl) T.n_len PySem.boot_len (AA.cons (AE.ix (AE.ix (AE.ix (AE.var (pv 1)) AE.int) AE.int) AE.int) AA.nil)) (pv 0) T.f_System_own_width))))
abbrev s__law_bowl : Stmt := topS 30
theorem sc__law_bowl : FnScope ["_law_script", "_law_at", "_law_cell", "_law_great", "_law_blend"] ["_law_script", "_law_at"] (defScope s__law_bowl) := ⟨rfl, rfl, rfl, by decide +kernel, rfl, by decide +kernel, by decide +kernel⟩
theorem bd__law_bowl (T : Tx P w K mg) : Binds K T.fd30 ["_law_script", "_law_at"] [] := T.f30.bindsN fun _ _ _ _ _ _ us hl => match us, hl with | [_, _], _ => rfl
theorem ok__law_bowl (T : Tx P w K mg) : FnG P w K mg base 1 T.a30 T.fd30 ["_law_script", "_law_at"] (NSp K 2 m__law_bowl) := by
  refine fn_new (N := ["_law_script", "_law_at", "_law_cell", "_law_great", "_law_blend"]) T.f30 sc__law_bowl rfl fun cdv hcd A outer s H E hr => ?_
  have tk := L2N.takes_of (X := cxOf (L2N.CX P w) P w K mg base ["_law_script", "_law_at", "_law_cell", "_law_great", "_law_blend"] "_law_bowl" (defScope s__law_bowl) T.a30 cdv A outer s H E) (E := E) rfl rfl rfl rfl
  have hp := passes_of (X := cxOf (L2N.CX P w) P w K mg base ["_law_script", "_law_at", "_law_cell", "_law_great", "_law_blend"] "_law_bowl" (defScope s__law_bowl) T.a30 cdv A outer s H E) rfl
  have hu := hr.units
  exact (AB.cons (AS.set sc__law_bowl.nd rfl (.inl rfl) (AE.ifx (AT.cmp OA.lt (AE.var (pv 1)) (AE.blt CA.len (by rfl) T.n_len PySem.boot_len (AA.cons (AE.var (pv 0)) AA.nil)) (nomark _)) (AE.ix (AE.var (pv 0)) (AE.var (pv 1))) (AE.bin OA.add (AE.bin OA.mul AE.int (AE.var (pv 1))) AE.int)))
    (AB.cons (AS.set sc__law_bowl.nd rfl (.inl rfl) (AE.bin OA.mod (AE.bty CA.int (by rfl) T.n_int (by decide +kernel) (AA.cons (AE.blt CA.abs (by rfl) T.n_abs (by decide +kernel) (AA.cons (AE.var (pv 2)) AA.nil)) AA.nil)) (AE.bin OA.pow (AE.bin OA.pow AE.int AE.int) AE.int)))
    (AB.cons (AS.set sc__law_bowl.nd rfl (.inl rfl) (AE.bin OA.add (AE.bin OA.add (AE.bin OA.add (AE.bin OA.mul (AE.bin OA.mod (AE.bty CA.int (by rfl) T.n_int (by decide +kernel) (AA.cons (AE.var (pv 3)) AA.nil)) AE.int) AE.int) (AE.bin OA.mul AE.int (AE.var (pv 1)))) (AE.bin OA.mul AE.int (AE.bty CA.int (by rfl) T.n_int (by decide +kernel) (AA.cons (AE.cmp OA.lt (AE.var (pv 2)) AE.int (nomark _)) AA.nil)))) AE.int))
    (AB.one (AS.retNew (AN.lst (AA.cons (AE.blt (CA.max2 rfl) (by rfl) T.n_max (by decide +kernel) (AA.cons AE.int (AA.cons (AE.bin OA.sub (AE.var (pv 3)) (AE.bin OA.pow AE.int AE.int)) AA.nil))) (AA.cons (AE.bin OA.mod (AE.bty CA.int (by rfl) T.n_int (by decide +kernel) (AA.cons (AE.var (pv 4)) AA.nil)) AE.int) (AA.cons AE.int AA.nil)))))))))
abbrev s__law_bit : Stmt := topS 31
theorem sc__law_bit : FnScope ["_law_bowl_here", "_law_among", "_law_one", "_law_two", "_law_found"] ["_law_bowl_here", "_law_among"] (defScope s__law_bit) := ⟨rfl, rfl, rfl, by decide +kernel, rfl, by decide +kernel, by decide +kernel⟩
theorem bd__law_bit (T : Tx P w K mg) : Binds K T.fd31 ["_law_bowl_here", "_law_among"] [] := T.f31.bindsN fun _ _ _ _ _ _ us hl => match us, hl with | [_, _], _ => rfl
theorem ok__law_bit (T : Tx P w K mg) : FnG P w K mg base 1 T.a31 T.fd31 ["_law_bowl_here", "_law_among"] (ISp K 1 m__law_bit) := by
  refine fn_io (N := ["_law_bowl_here", "_law_among", "_law_one", "_law_two", "_law_found"]) T.f31 sc__law_bit rfl fun cdv hcd A outer s H E hr => ?_
  have tk := L2N.takes_of (X := cxOf (L2N.CX P w) P w K mg base ["_law_bowl_here", "_law_among", "_law_one", "_law_two", "_law_found"] "_law_bit" (defScope s__law_bit) T.a31 cdv A outer s H E) (E := E) rfl rfl rfl rfl
  have hp := passes_of (X := cxOf (L2N.CX P w) P w K mg base ["_law_bowl_here", "_law_among", "_law_one", "_law_two", "_law_found"] "_law_bit" (defScope s__law_bit) T.a31 cdv A outer s H E) rfl
  have hu := hr.units
  exact (AB.cons (AS.if_ (AT.cmp OA.gt (AE.ixN (pv 0) AE.int) AE.int (nomark _)) (AB.cons (AS.set sc__law_bit.nd rfl (.inl rfl) (AE.bin OA.mod (AE.bty CA.int (by rfl) T.n_int (by decide +kernel) (AA.cons (AE.ixN (pv 0) AE.int) AA.nil)) (AE.var (pv 1))))
    (AB.cons (AS.setIx (AE.bin OA.div (AE.ixN (pv 0) AE.int) (AE.var (pv 1))) (pv 0) AE.int)
    (AB.one (AS.ret (AE.var (pv 4)))))) AB.nil)
    (AB.cons (AS.setIx (AE.bin OA.add (AE.ixN (pv 0) AE.int) AE.int) (pv 0) AE.int)
    (AB.cons (AS.set sc__law_bit.nd rfl (.inl rfl) (AE.bin OA.mod (AE.bty CA.int (by rfl) T.n_int (by decide +kernel) (AA.cons (AE.bin OA.add (AE.ixN (pv 0) AE.int) (AE.bin OA.mul AE.int (AE.ixN (pv 0) AE.int))) AA.nil)) AE.int))
    (AB.cons (AS.set sc__law_bit.nd rfl (.inl rfl) (AE.bin OA.add (AE.bin OA.mul (AE.bin OA.mod (AE.bty CA.int (by rfl) T.n_int (by decide +kernel) (AA.cons (AE.bin OA.mul (AE.var (pv 2)) (AE.var (pv 2))) AA.nil)) AE.int) (AE.var (pv 2))) (AE.bin OA.mul AE.int (AE.ixN (pv 0) AE.int))))
    (AB.one (AS.ret (AE.bin OA.mod (AE.bty CA.int (by rfl) T.n_int (by decide +kernel) (AA.cons (AE.bin OA.div (AE.bin OA.mod (AE.bty CA.int (by rfl) T.n_int (by decide +kernel) (AA.cons (AE.var (pv 3)) AA.nil)) AE.int) AE.int) AA.nil)) (AE.var (pv 1)))))))))
abbrev s__law_pick : Stmt := topS 32
theorem sc__law_pick : FnScope ["_law_bowl_here", "_law_items"] ["_law_bowl_here", "_law_items"] (defScope s__law_pick) := ⟨rfl, rfl, rfl, by decide +kernel, rfl, by decide +kernel, by decide +kernel⟩
theorem bd__law_pick (T : Tx P w K mg) : Binds K T.fd32 ["_law_bowl_here", "_law_items"] [] := T.f32.bindsN fun _ _ _ _ _ _ us hl => match us, hl with | [_, _], _ => rfl
theorem ok__law_pick (T : Tx P w K mg) : FnG P w K mg base 2 T.a32 T.fd32 ["_law_bowl_here", "_law_items"] (ISp K 1 m__law_pick) := by
  refine fn_io (N := ["_law_bowl_here", "_law_items"]) T.f32 sc__law_pick rfl fun cdv hcd A outer s H E hr => ?_
  have tk := L2N.takes_of (X := cxOf (L2N.CX P w) P w K mg base ["_law_bowl_here", "_law_items"] "_law_pick" (defScope s__law_pick) T.a32 cdv A outer s H E) (E := E) rfl rfl rfl rfl
  have hp := passes_of (X := cxOf (L2N.CX P w) P w K mg base ["_law_bowl_here", "_law_items"] "_law_pick" (defScope s__law_pick) T.a32 cdv A outer s H E) rfl
  have hu := hr.units
  exact (AB.one (AS.ret (AE.ix (AE.var (pv 1)) (AE.callIo (ok__law_bit T) (hr.mono (by decide)) (by rfl) T.g31 T.f31.kp (bd__law_bit T) tk (pv 0) (AA.cons (AE.blt CA.len (by rfl) T.n_len PySem.boot_len (AA.cons (AE.var (pv 1)) AA.nil)) AA.nil)))))
abbrev s__law_small : Stmt := topS 34
theorem sc__law_small : FnScope ["_law_bowl_here", "_law_most", "_law_lot"] ["_law_bowl_here", "_law_most"] (defScope s__law_small) := ⟨rfl, rfl, rfl, by decide +kernel, rfl, by decide +kernel, by decide +kernel⟩
theorem bd__law_small (T : Tx P w K mg) : Binds K T.fd34 ["_law_bowl_here", "_law_most"] [] := T.f34.bindsN fun _ _ _ _ _ _ us hl => match us, hl with | [_, _], _ => rfl
theorem ok__law_small (T : Tx P w K mg) : FnG P w K mg base 2 T.a34 T.fd34 ["_law_bowl_here", "_law_most"] (ISp K 1 m__law_small) := by
  refine fn_io (N := ["_law_bowl_here", "_law_most", "_law_lot"]) T.f34 sc__law_small rfl fun cdv hcd A outer s H E hr => ?_
  have tk := L2N.takes_of (X := cxOf (L2N.CX P w) P w K mg base ["_law_bowl_here", "_law_most", "_law_lot"] "_law_small" (defScope s__law_small) T.a34 cdv A outer s H E) (E := E) rfl rfl rfl rfl
  have hp := passes_of (X := cxOf (L2N.CX P w) P w K mg base ["_law_bowl_here", "_law_most", "_law_lot"] "_law_small" (defScope s__law_small) T.a34 cdv A outer s H E) rfl
  have hu := hr.units
  exact (AB.cons (AS.set sc__law_small.nd rfl (.inl rfl) (AE.callIo (ok__law_bit T) (hr.mono (by decide)) (by rfl) T.g31 T.f31.kp (bd__law_bit T) tk (pv 0) (AA.cons AE.int AA.nil)))
    (AB.one (AS.ret (AE.ifx (AT.cmp OA.lt (AE.var (pv 2)) AE.int (nomark _)) (AE.var (pv 2)) (AE.bin OA.sub (AE.callIo (ok__law_bit T) (hr.mono (by decide)) (by rfl) T.g31 T.f31.kp (bd__law_bit T) tk (pv 0) (AA.cons (AE.bin OA.add (AE.bin OA.mul AE.int (AE.var (pv 1))) AE.int) AA.nil)) (AE.var (pv 1)))))))
abbrev s__law_line : Stmt := topS 35
theorem sc__law_line : FnScope ["_law_bowl_here", "_law_size", "_law_most", "_law_turn"] ["_law_bowl_here", "_law_size", "_law_most"] (defScope s__law_line) := ⟨rfl, rfl, rfl, by decide +kernel, rfl, by decide +kernel, by decide +kernel⟩
theorem bd__law_line (T : Tx P w K mg) : Binds K T.fd35 ["_law_bowl_here", "_law_size", "_law_most"] [] := T.f35.bindsN fun _ _ _ _ _ _ us hl => match us, hl with | [_, _, _], _ => rfl
theorem ok__law_line (T : Tx P w K mg) : FnG P w K mg base 3 T.a35 T.fd35 ["_law_bowl_here", "_law_size", "_law_most"] (ISp K 2 m__law_line) := by
  refine fn_io (N := ["_law_bowl_here", "_law_size", "_law_most", "_law_turn"]) T.f35 sc__law_line rfl fun cdv hcd A outer s H E hr => ?_
  have tk := L2N.takes_of (X := cxOf (L2N.CX P w) P w K mg base ["_law_bowl_here", "_law_size", "_law_most", "_law_turn"] "_law_line" (defScope s__law_line) T.a35 cdv A outer s H E) (E := E) rfl rfl rfl rfl
  have hp := passes_of (X := cxOf (L2N.CX P w) P w K mg base ["_law_bowl_here", "_law_size", "_law_most", "_law_turn"] "_law_line" (defScope s__law_line) T.a35 cdv A outer s H E) rfl
  have hu := hr.units
  exact (AB.one (AS.ret (AE.bty CA.tuple (by rfl) T.n_tuple (by decide +kernel) (AA.cons (AE.ofN (AN.lc (own := [("_law_turn", 3)]) (t := (.sl 3)) rfl sc__law_line.nd (AI.range1 (by rfl) T.n_range (AA.cons (AE.var (pv 1)) AA.nil)) (blkOk_by (N := ["_law_bowl_here", "_law_size", "_law_most", "_law_turn"]) (sc := defScope s__law_line) (by decide +kernel)) (by decide) (fun _ _ _ _ _ => (AG.name sc__law_line.nd rfl (by first | exact .inl rfl | exact .inr rfl))) (fun _ _ _ _ _ => ATs.nil) (fun _ _ _ _ _ => (AE.callIo (ok__law_small T) (hr.mono (by decide)) (by rfl) T.g34 T.f34.kp (bd__law_small T) takes0N (pv 0) (AA.cons (AE.var (pv 2)) AA.nil))))) AA.nil))))
abbrev s__law_strand : Stmt := topS 36
theorem sc__law_strand : FnScope ["_law_bowl_here", "_law_size", "_law_most", "_law_depth", "_law_sign", "_law_lines", "_law_turn"] ["_law_bowl_here", "_law_size", "_law_most", "_law_depth"] (defScope s__law_strand) := ⟨rfl, rfl, rfl, by decide +kernel, rfl, by decide +kernel, by decide +kernel⟩
theorem bd__law_strand (T : Tx P w K mg) : Binds K T.fd36 ["_law_bowl_here", "_law_size", "_law_most", "_law_depth"] [] := T.f36.bindsN fun _ _ _ _ _ _ us hl => match us, hl with | [_, _, _, _], _ => rfl
theorem ok__law_strand (T : Tx P w K mg) : FnG P w K mg base 4 T.a36 T.fd36 ["_law_bowl_here", "_law_size", "_law_most", "_law_depth"] (ISp K 3 m__law_strand) := by
  refine fn_io (N := ["_law_bowl_here", "_law_size", "_law_most", "_law_depth", "_law_sign", "_law_lines", "_law_turn"]) T.f36 sc__law_strand rfl fun cdv hcd A outer s H E hr => ?_
  have tk := L2N.takes_of (X := cxOf (L2N.CX P w) P w K mg base ["_law_bowl_here", "_law_size", "_law_most", "_law_depth", "_law_sign", "_law_lines", "_law_turn"] "_law_strand" (defScope s__law_strand) T.a36 cdv A outer s H E) (E := E) rfl rfl rfl rfl
  have hp := passes_of (X := cxOf (L2N.CX P w) P w K mg base ["_law_bowl_here", "_law_size", "_law_most", "_law_depth", "_law_sign", "_law_lines", "_law_turn"] "_law_strand" (defScope s__law_strand) T.a36 cdv A outer s H E) rfl
  have hu := hr.units
  exact (AB.cons (AS.set sc__law_strand.nd rfl (.inl rfl) (AE.callIo (ok__law_pick T) (hr.mono (by decide)) (by rfl) T.g32 T.f32.kp (bd__law_pick T) tk (pv 0) (AA.cons (AE.lst (AA.cons AE.str (AA.cons AE.str (AA.cons AE.str (AA.cons AE.str (AA.cons AE.str AA.nil)))))) AA.nil)))
    (AB.cons (AS.own sc__law_strand.nd rfl (.inl rfl) (AN.lst AA.nil))
    (AB.cons (AS.for_ hp rfl (AI.range1 (by rfl) T.n_range (AA.cons (AE.bin OA.add AE.int (AE.callIo (ok__law_bit T) (hr.mono (by decide)) (by rfl) T.g31 T.f31.kp (bd__law_bit T) tk (pv 0) (AA.cons (AE.var (pv 3)) AA.nil))) AA.nil)) (AG.name sc__law_strand.nd rfl (.inl rfl)) (AB.one (AS.expr (AE.app (pv 5) (AE.ifx (AT.cmp OA.gt (AE.callIo (ok__law_bit T) (hr.mono (by decide)) (by rfl) T.g31 T.f31.kp (bd__law_bit T) tk (pv 0) (AA.cons AE.int AA.nil)) AE.int (nomark _)) (AE.callIo (ok__law_line T) (hr.mono (by decide)) (by rfl) T.g35 T.f35.kp (bd__law_line T) tk (pv 0) (AA.cons (AE.var (pv 1)) (AA.cons (AE.var (pv 2)) AA.nil))) (AE.bin OA.mul (AE.tup (AA.cons AE.int AA.nil)) (AE.var (pv 1))))))))
    (AB.one (AS.ret (AE.tup (AA.cons (AE.var (pv 4)) (AA.cons (AE.bty CA.tuple (by rfl) T.n_tuple (by decide +kernel) (AA.cons (AE.var (pv 5)) AA.nil)) AA.nil))))))))
abbrev s__law_dealt : Stmt := topS 33
theorem sc__law_dealt : FnScope ["_law_bowl_here", "_law_items", "_law_waits", "_law_turn"] ["_law_bowl_here", "_law_items"] (defScope s__law_dealt) := ⟨rfl, rfl, rfl, by decide +kernel, rfl, by decide +kernel, by decide +kernel⟩
theorem bd__law_dealt (T : Tx P w K mg) : Binds K T.fd33 ["_law_bowl_here", "_law_items"] [] := T.f33.bindsN fun _ _ _ _ _ _ us hl => match us, hl with | [_, _], _ => rfl
theorem ok__law_dealt (T : Tx P w K mg) : FnG P w K mg base 2 T.a33 T.fd33 ["_law_bowl_here", "_law_items"] (ISp K 1 m__law_dealt) := by
  refine fn_io (N := ["_law_bowl_here", "_law_items", "_law_waits", "_law_turn"]) T.f33 sc__law_dealt rfl fun cdv hcd A outer s H E hr => ?_
  have tk := L2N.takes_of (X := cxOf (L2N.CX P w) P w K mg base ["_law_bowl_here", "_law_items", "_law_waits", "_law_turn"] "_law_dealt" (defScope s__law_dealt) T.a33 cdv A outer s H E) (E := E) rfl rfl rfl rfl
  have hp := passes_of (X := cxOf (L2N.CX P w) P w K mg base ["_law_bowl_here", "_law_items", "_law_waits", "_law_turn"] "_law_dealt" (defScope s__law_dealt) T.a33 cdv A outer s H E) rfl
  have hu := hr.units
  exact (AB.cons (AS.own sc__law_dealt.nd rfl (.inr rfl) (AN.list (by rfl) T.n_list (AA.cons (AE.var (pv 1)) AA.nil)))
    (AB.one (AS.ret (AE.ofN (AN.lc (own := [("_law_turn", 3)]) (t := (.sl 3)) rfl sc__law_dealt.nd (AI.range1 (by rfl) T.n_range (AA.cons (AE.blt CA.len (by rfl) T.n_len PySem.boot_len (AA.cons (AE.var (pv 1)) AA.nil)) AA.nil)) (blkOk_by (N := ["_law_bowl_here", "_law_items", "_law_waits", "_law_turn"]) (sc := defScope s__law_dealt) (by decide +kernel)) (by decide) (fun _ _ _ _ _ => (AG.name sc__law_dealt.nd rfl (by first | exact .inl rfl | exact .inr rfl))) (fun _ _ _ _ _ => ATs.nil) (fun _ _ _ _ _ => (AE.popAt (pv 2) (AE.callIo (ok__law_bit T) (hr.mono (by decide)) (by rfl) T.g31 T.f31.kp (bd__law_bit T) takes0N (pv 0) (AA.cons (AE.lenN (pv 2) (by rfl) T.n_len) AA.nil)))))))))
abbrev s__law_pack : Stmt := topS 37
theorem sc__law_pack : FnScope ["_law_bowl_here", "_law_size", "_law_most", "_law_found", "_law_flipped", "_law_turn", "_law_sign", "_law_lines", "_law_line_here", "_law_one"] ["_law_bowl_here", "_law_size", "_law_most"] (defScope s__law_pack) := ⟨rfl, rfl, rfl, by decide +kernel, rfl, by decide +kernel, by decide +kernel⟩
theorem bd__law_pack (T : Tx P w K mg) : Binds K T.fd37 ["_law_bowl_here", "_law_size", "_law_most"] [] := T.f37.bindsN fun _ _ _ _ _ _ us hl => match us, hl with | [_, _, _], _ => rfl
theorem ok__law_pack (T : Tx P w K mg) : FnG P w K mg base 5 T.a37 T.fd37 ["_law_bowl_here", "_law_size", "_law_most"] (ISp K 2 m__law_pack) := by
  refine fn_io (N := ["_law_bowl_here", "_law_size", "_law_most", "_law_found", "_law_flipped", "_law_turn", "_law_sign", "_law_lines", "_law_line_here", "_law_one"]) T.f37 sc__law_pack rfl fun cdv hcd A outer s H E hr => ?_
  have tk := L2N.takes_of (X := cxOf (L2N.CX P w) P w K mg base ["_law_bowl_here", "_law_size", "_law_most", "_law_found", "_law_flipped", "_law_turn", "_law_sign", "_law_lines", "_law_line_here", "_law_one"] "_law_pack" (defScope s__law_pack) T.a37 cdv A outer s H E) (E := E) rfl rfl rfl rfl
  have hp := passes_of (X := cxOf (L2N.CX P w) P w K mg base ["_law_bowl_here", "_law_size", "_law_most", "_law_found", "_law_flipped", "_law_turn", "_law_sign", "_law_lines", "_law_line_here", "_law_one"] "_law_pack" (defScope s__law_pack) T.a37 cdv A outer s H E) rfl
  have hu := hr.units
  exact (AB.cons (AS.ownLc (own := [("_law_turn", 5)]) (t := (.sl 5)) rfl sc__law_pack.nd rfl rfl (sw_true rfl rfl rfl (by decide +kernel)) (AI.range1 (by rfl) T.n_range (AA.cons (AE.bin OA.add AE.int (AE.callIo (ok__law_bit T) (hr.mono (by decide)) (by rfl) T.g31 T.f31.kp (bd__law_bit T) tk (pv 0) (AA.cons (AE.var (pv 2)) AA.nil))) AA.nil)) (blkOk_by (N := ["_law_bowl_here", "_law_size", "_law_most", "_law_found", "_law_flipped", "_law_turn", "_law_sign", "_law_lines", "_law_line_here", "_law_one"]) (sc := defScope s__law_pack) (by decide +kernel)) (by decide) (fun _ _ _ _ _ => (AG.name sc__law_pack.nd rfl (by first | exact .inl rfl | exact .inr rfl))) (fun _ _ _ _ _ => ATs.nil) (fun _ _ _ _ _ => (AE.callIo (ok__law_strand T) (hr.mono (by decide)) (by rfl) T.g36 T.f36.kp (bd__law_strand T) takes0N (pv 0) (AA.cons (AE.var (pv 1)) (AA.cons AE.int (AA.cons AE.int AA.nil))))))
    (AB.cons (AS.if_ (AT.cmp (OA.eq hu) (AE.callIo (ok__law_bit T) (hr.mono (by decide)) (by rfl) T.g31 T.f31.kp (bd__law_bit T) tk (pv 0) (AA.cons AE.int AA.nil)) AE.int (nomark _)) (AB.cons (AS.asg (AE.peek 3 (AE.callIo (ok__law_pick T) (hr.mono (by decide)) (by rfl) T.g32 T.f32.kp (bd__law_pick T) tk (pv 0) (AA.cons (AE.var (pv 3)) AA.nil))) (AG.tup rfl (AGs.cons (AG.name sc__law_pack.nd rfl (.inl rfl)) (AGs.cons (AG.name sc__law_pack.nd rfl (.inl rfl)) AGs.nil))))
    (AB.cons (AS.set sc__law_pack.nd rfl (.inl rfl) (AE.bty CA.tuple (by rfl) T.n_tuple (by decide +kernel) (AA.cons (AE.ofN (AN.lc (own := [("_law_line_here", 8)]) (t := (.sl 8)) rfl sc__law_pack.nd (AI.any (AE.var (pv 7))) (blkOk_by (N := ["_law_bowl_here", "_law_size", "_law_most", "_law_found", "_law_flipped", "_law_turn", "_law_sign", "_law_lines", "_law_line_here", "_law_one"]) (sc := defScope s__law_pack) (by decide +kernel)) (by decide) (fun _ _ _ _ _ => (AG.name sc__law_pack.nd rfl (by first | exact .inl rfl | exact .inr rfl))) (fun _ _ _ _ _ => ATs.nil) (fun _ _ _ _ _ => (AE.bty CA.tuple (by rfl) T.n_tuple (by decide +kernel) (AA.cons (AE.ofN (AN.lc (own := [("_law_one", 9)]) (t := (.sl 9)) rfl sc__law_pack.nd (AI.any (AE.var (pv 8))) (blkOk_by (N := ["_law_bowl_here", "_law_size", "_law_most", "_law_found", "_law_flipped", "_law_turn", "_law_sign", "_law_lines", "_law_line_here", "_law_one"]) (by kernel_rfl)) (by decide) (fun _ _ _ _ _ => (AG.name sc__law_pack.nd rfl (by first | exact .inl rfl | exact .inr rfl))) (fun _ _ _ _ _ => ATs.nil) (fun _ _ _ _ _ => (AE.bin OA.sub AE.int (AE.var (pv 9)))))) AA.nil))))) AA.nil)))
    (AB.one (AS.expr (AE.app (pv 3) (AE.tup (AA.cons (AE.callIo (ok__law_pick T) (hr.mono (by decide)) (by rfl) T.g32 T.f32.kp (bd__law_pick T) tk (pv 0) (AA.cons (AE.lst (AA.cons AE.str (AA.cons AE.str (AA.cons (AE.var (pv 6)) AA.nil)))) AA.nil)) (AA.cons (AE.slice (AE.var (pv 4)) AO.none (AO.some (AE.bin OA.add AE.int (AE.callIo (ok__law_bit T) (hr.mono (by decide)) (by rfl) T.g31 T.f31.kp (bd__law_bit T) tk (pv 0) (AA.cons (AE.blt CA.len (by rfl) T.n_len PySem.boot_len (AA.cons (AE.var (pv 4)) AA.nil)) AA.nil))))) AA.nil)))))))) AB.nil)
    (AB.one (AS.ret (AE.bty CA.tuple (by rfl) T.n_tuple (by decide +kernel) (AA.cons (AE.callIo (ok__law_dealt T) (hr.mono (by decide)) (by rfl) T.g33 T.f33.kp (bd__law_dealt T) tk (pv 0) (AA.cons (AE.var (pv 3)) AA.nil)) AA.nil))))))
abbrev s_System_with_strand : Stmt := inCls (topS 26) 5
theorem sc_System_with_strand : FnScope ["self", "sign", "rows"] ["self", "sign", "rows"] (defScope s_System_with_strand) := ⟨rfl, rfl, rfl, by decide +kernel, rfl, by decide +kernel, by decide +kernel⟩
theorem bd_System_with_strand (T : Tx P w K mg) : Binds K T.fd26_5 ["self", "sign", "rows"] [] := T.f26_5.bindsN fun _ _ _ _ _ _ us hl => match us, hl with | [_, _, _], _ => rfl
theorem ok_System_with_strand (T : Tx P w K mg) : FnG P w K mg base 8 T.a26_5 T.fd26_5 ["self", "sign", "rows"] (PSp K 3 m_System_with_strand) := by
  refine fn_val (N := ["self", "sign", "rows"]) T.f26_5 sc_System_with_strand rfl fun cdv hcd A outer s H E hr => ?_
  have tk := L2N.takes_of (X := cxOf (L2N.CX P w) P w K mg base ["self", "sign", "rows"] "System.with_strand" (defScope s_System_with_strand) T.a26_5 cdv A outer s H E) (E := E) rfl rfl rfl rfl
  have hp := passes_of (X := cxOf (L2N.CX P w) P w K mg base ["self", "sign", "rows"] "System.with_strand" (defScope s_System_with_strand) T.a26_5 cdv A outer s H E) rfl
  have hu := hr.units
  exact (AB.one (AS.ret (AE.make T.k_System (ok_System___init__ T) (hr.mono (by decide)) (by rfl) T.o_System (bd_System___init__ T) .nil (fun _ _ => .nil) tk (AA.cons (AE.tup (AA.star (AE.fld (cs := ["System"]) (AE.var (pv 0)) (by simp only [List.forall_mem_cons, List.not_mem_nil, false_implies, implies_true, and_true]; exact T.f_System_own_strands) (by rfl)) (AA.cons (AE.tup (AA.cons (AE.var (pv 1)) (AA.cons (AE.var (pv 2)) AA.nil))) AA.nil))) AA.nil))))
abbrev s_System_strands : Stmt := inCls (topS 26) 1
theorem sc_System_strands : FnScope ["self"] ["self"] (defScope s_System_strands) := ⟨rfl, rfl, rfl, by decide +kernel, rfl, by decide +kernel, by decide +kernel⟩
theorem bd_System_strands (T : Tx P w K mg) : Binds K T.fd26_1 ["self"] [] := T.f26_1.bindsN fun _ _ _ _ _ _ us hl => match us, hl with | [_], _ => rfl
theorem ok_System_strands (T : Tx P w K mg) : FnG P w K mg base 1 T.a26_1 T.fd26_1 ["self"] (PSp K 1 m_System_strands) := by
  refine fn_val (N := ["self"]) T.f26_1 sc_System_strands rfl fun cdv hcd A outer s H E hr => ?_
  have tk := L2N.takes_of (X := cxOf (L2N.CX P w) P w K mg base ["self"] "System.strands" (defScope s_System_strands) T.a26_1 cdv A outer s H E) (E := E) rfl rfl rfl rfl
  have hp := passes_of (X := cxOf (L2N.CX P w) P w K mg base ["self"] "System.strands" (defScope s_System_strands) T.a26_1 cdv A outer s H E) rfl
  have hu := hr.units
  exact (AB.one (AS.ret (AE.fld (cs := ["System"]) (AE.var (pv 0)) (by simp only [List.forall_mem_cons, List.not_mem_nil, false_implies, implies_true, and_true]; exact T.f_System_own_strands) (by rfl))))
abbrev s__law_told : Stmt := topS 40
theorem sc__law_told : FnScope ["_law_value"] ["_law_value"] (defScope s__law_told) := ⟨rfl, rfl, rfl, by decide +kernel, rfl, by decide +kernel, by decide +kernel⟩
theorem bd__law_told (T : Tx P w K mg) : Binds K T.fd40 ["_law_value"] [] := T.f40.bindsN fun _ _ _ _ _ _ us hl => match us, hl with | [_], _ => rfl
theorem ok__law_told (T : Tx P w K mg) : FnG P w K mg base 8 T.a40 T.fd40 ["_law_value"] (PSp K 1 m__law_told_k28) := by
  refine fn_val (N := ["_law_value"]) T.f40 sc__law_told rfl fun cdv hcd A outer s H E hr => ?_
  have tk := L2N.takes_of (X := cxOf (L2N.CX P w) P w K mg base ["_law_value"] "_law_told" (defScope s__law_told) T.a40 cdv A outer s H E) (E := E) rfl rfl rfl rfl
  have hp := passes_of (X := cxOf (L2N.CX P w) P w K mg base ["_law_value"] "_law_told" (defScope s__law_told) T.a40 cdv A outer s H E) rfl
  have hu := hr.units
  exact (AB.one (AS.try_ rfl rfl tk (fun W' pn xe tk po => (AB.one (AS.ret (AE.prop (cs := [(Str.ofString "System", m_System_strands)]) (k := 1) (AE.make T.k_System (ok_System___init__ T) (hr.mono (by decide)) (by rfl) T.o_System (bd_System___init__ T) .nil (fun _ _ => .nil) tk (AA.cons (AE.var (pv 0)) AA.nil)) (by simp only [List.forall_mem_cons, List.not_mem_nil, false_implies, implies_true, and_true]; exact (let ⟨_, h⟩ := T.p_System_strands; ⟨T.cl_System, _, _, _, _, h, (ok_System_strands T).mono (by decide), bd_System_strands T⟩)) (hr.mono (by decide)) (by rfl))))) (AHs.one ⟨rfl, by decide, .inl T.o_InvalidSystem⟩ (ts := [(Str.ofString "InvalidNumber", false), (Str.ofString "InvalidSystem", true)]) (by simp only [List.forall_mem_cons, List.not_mem_nil, false_implies, implies_true, and_true]; exact ⟨T.x_InvalidNumber_InvalidSystem, T.x_InvalidSystem_InvalidSystem⟩) (fun y a oe d pn hz hf hct => (AB.one (AS.ret AE.str))) AHs.nil)))
abbrev s__law_bent_strand : Stmt := topS 41
theorem sc__law_bent_strand : FnScope ["_law_bowl_here", "_law_one", "_law_some", "_law_found", "_law_sign", "_law_lines", "_law_line_here", "_law_spot", "_law_bent", "_law_word"] ["_law_bowl_here", "_law_one"] (defScope s__law_bent_strand) := ⟨rfl, rfl, rfl, by decide +kernel, rfl, by decide +kernel, by decide +kernel⟩
theorem bd__law_bent_strand (T : Tx P w K mg) : Binds K T.fd41 ["_law_bowl_here", "_law_one"] [] := T.f41.bindsN fun _ _ _ _ _ _ us hl => match us, hl with | [_, _], _ => rfl
theorem ok__law_bent_strand (T : Tx P w K mg) : FnG P w K mg base 3 T.a41 T.fd41 ["_law_bowl_here", "_law_one"] (ISp K 1 m__law_bent_strand) := by
  refine fn_io (N := ["_law_bowl_here", "_law_one", "_law_some", "_law_found", "_law_sign", "_law_lines", "_law_line_here", "_law_spot", "_law_bent", "_law_word"]) T.f41 sc__law_bent_strand rfl fun cdv hcd A outer s H E hr => ?_
  have tk := L2N.takes_of (X := cxOf (L2N.CX P w) P w K mg base ["_law_bowl_here", "_law_one", "_law_some", "_law_found", "_law_sign", "_law_lines", "_law_line_here", "_law_spot", "_law_bent", "_law_word"] "_law_bent_strand" (defScope s__law_bent_strand) T.a41 cdv A outer s H E) (E := E) rfl rfl rfl rfl
  have hp := passes_of (X := cxOf (L2N.CX P w) P w K mg base ["_law_bowl_here", "_law_one", "_law_some", "_law_found", "_law_sign", "_law_lines", "_law_line_here", "_law_spot", "_law_bent", "_law_word"] "_law_bent_strand" (defScope s__law_bent_strand) T.a41 cdv A outer s H E) rfl
  have hu := hr.units
  exact (AB.cons (AS.asg (AE.var (pv 1)) (AG.tup rfl (AGs.cons (AG.name sc__law_bent_strand.nd rfl (.inr rfl)) (AGs.cons (AG.name sc__law_bent_strand.nd rfl (.inr rfl)) AGs.nil))))
    (AB.cons (AS.asg (AE.tup (AA.cons (AE.ix (AE.var (pv 5)) (AE.un UA.neg AE.int)) (AA.cons (AE.callIo (ok__law_bit T) (hr.mono (by decide)) (by rfl) T.g31 T.f31.kp (bd__law_bit T) tk (pv 0) (AA.cons (AE.blt CA.len (by rfl) T.n_len PySem.boot_len (AA.cons (AE.ix (AE.var (pv 5)) (AE.un UA.neg AE.int)) AA.nil)) AA.nil)) AA.nil))) (AG.tup rfl (AGs.cons (AG.name sc__law_bent_strand.nd rfl (.inr rfl)) (AGs.cons (AG.name sc__law_bent_strand.nd rfl (.inr rfl)) AGs.nil))))
    (AB.cons (AS.set sc__law_bent_strand.nd rfl (.inl rfl) (AE.lst (AA.cons (AE.bin OA.add (AE.var (pv 6)) (AE.tup (AA.cons AE.int AA.nil))) (AA.cons (AE.slice (AE.var (pv 6)) AO.none (AO.some (AE.un UA.neg AE.int))) (AA.cons (AE.bty CA.list (by rfl) T.n_list (by decide +kernel) (AA.cons (AE.var (pv 6)) AA.nil)) (AA.cons AE.non (AA.cons (AE.tup AA.nil) (AA.cons (AE.bin OA.add (AE.bin OA.add (AE.slice (AE.var (pv 6)) AO.none (AO.some (AE.var (pv 7)))) (AE.tup (AA.cons (AE.bin OA.pow AE.int AE.int) AA.nil))) (AE.slice (AE.var (pv 6)) (AO.some (AE.bin OA.add (AE.var (pv 7)) AE.int)) AO.none)) AA.nil))))))))
    (AB.cons (AS.set sc__law_bent_strand.nd rfl (.inl rfl) (AE.bin OA.add (AE.var (pv 2)) (AE.ofN (AN.lc (own := [("_law_one", 1)]) (t := (.sl 1)) rfl sc__law_bent_strand.nd (AI.any (AE.tup (AA.cons AE.bl (AA.cons AE.non (AA.cons AE.str (AA.cons (AE.bin OA.sub AE.int (AE.bin OA.pow AE.int AE.int)) (AA.cons (AE.bin OA.pow AE.int AE.int) AA.nil))))))) (blkOk_by (N := ["_law_bowl_here", "_law_one", "_law_some", "_law_found", "_law_sign", "_law_lines", "_law_line_here", "_law_spot", "_law_bent", "_law_word"]) (sc := defScope s__law_bent_strand) (by decide +kernel)) (by decide) (fun _ _ _ _ _ => (AG.name sc__law_bent_strand.nd rfl (by first | exact .inl rfl | exact .inr rfl))) (fun _ _ _ _ _ => ATs.nil) (fun _ _ _ _ _ => (AE.bin OA.add (AE.bin OA.add (AE.slice (AE.var (pv 6)) AO.none (AO.some (AE.var (pv 7)))) (AE.tup (AA.cons (AE.var (pv 1)) AA.nil))) (AE.slice (AE.var (pv 6)) (AO.some (AE.bin OA.add (AE.var (pv 7)) AE.int)) AO.none)))))))
    (AB.cons (AS.setLc (own := [("_law_bent", 8)]) (t := (.sl 8)) rfl sc__law_bent_strand.nd rfl rfl (sw_true rfl rfl rfl (by decide +kernel)) (AI.any (AE.var (pv 2))) (blkOk_by (N := ["_law_bowl_here", "_law_one", "_law_some", "_law_found", "_law_sign", "_law_lines", "_law_line_here", "_law_spot", "_law_bent", "_law_word"]) (sc := defScope s__law_bent_strand) (by decide +kernel)) (by decide) (fun _ _ _ _ _ => (AG.name sc__law_bent_strand.nd rfl (by first | exact .inl rfl | exact .inr rfl))) (fun _ _ _ _ _ => ATs.nil) (fun _ _ _ _ _ => (AE.tup (AA.cons (AE.var (pv 4)) (AA.cons (AE.bin OA.add (AE.slice (AE.var (pv 5)) AO.none (AO.some (AE.un UA.neg AE.int))) (AE.tup (AA.cons (AE.var (pv 8)) AA.nil))) AA.nil)))))
    (AB.cons (AS.set sc__law_bent_strand.nd rfl (.inl rfl) (AE.bin OA.add (AE.var (pv 3)) (AE.ofN (AN.lc (own := [("_law_word", 9)]) (t := (.sl 9)) rfl sc__law_bent_strand.nd (AI.any (AE.tup (AA.cons AE.str (AA.cons AE.str (AA.cons AE.non (AA.cons AE.int (AA.cons AE.str (AA.cons (AE.tup (AA.cons AE.str AA.nil)) (AA.cons AE.str (AA.cons AE.str AA.nil)))))))))) (blkOk_by (N := ["_law_bowl_here", "_law_one", "_law_some", "_law_found", "_law_sign", "_law_lines", "_law_line_here", "_law_spot", "_law_bent", "_law_word"]) (sc := defScope s__law_bent_strand) (by decide +kernel)) (by decide) (fun _ _ _ _ _ => (AG.name sc__law_bent_strand.nd rfl (by first | exact .inl rfl | exact .inr rfl))) (fun _ _ _ _ _ => ATs.nil) (fun _ _ _ _ _ => (AE.tup (AA.cons (AE.var (pv 9)) (AA.cons (AE.var (pv 5)) AA.nil))))))))
    (AB.cons (AS.set sc__law_bent_strand.nd rfl (.inl rfl) (AE.bin OA.add (AE.var (pv 3)) (AE.lst (AA.cons (AE.tup (AA.cons (AE.var (pv 4)) (AA.cons (AE.tup AA.nil) AA.nil))) (AA.cons (AE.tup (AA.cons (AE.var (pv 4)) (AA.cons (AE.bty CA.list (by rfl) T.n_list (by decide +kernel) (AA.cons (AE.var (pv 5)) AA.nil)) AA.nil))) (AA.cons (AE.tup (AA.cons (AE.var (pv 4)) (AA.cons (AE.ix (AE.var (pv 5)) AE.int) AA.nil))) (AA.cons (AE.tup (AA.cons (AE.var (pv 4)) AA.nil)) (AA.cons (AE.lst (AA.cons (AE.var (pv 4)) (AA.cons (AE.var (pv 5)) AA.nil))) (AA.cons (AE.tup (AA.cons (AE.var (pv 5)) (AA.cons (AE.var (pv 4)) AA.nil))) (AA.cons AE.non AA.nil))))))))))
    (AB.one (AS.ret (AE.callIo (ok__law_pick T) (hr.mono (by decide)) (by rfl) T.g32 T.f32.kp (bd__law_pick T) tk (pv 0) (AA.cons (AE.bin OA.add (AE.var (pv 3)) (AE.lst (AA.cons (AE.tup (AA.cons (AE.var (pv 4)) (AA.cons (AE.slice (AE.bin OA.mul (AE.var (pv 5)) AE.int) AO.none (AO.some AE.int)) AA.nil))) (AA.cons (AE.tup (AA.cons (AE.var (pv 4)) (AA.cons (AE.slice (AE.bin OA.mul (AE.var (pv 5)) AE.int) AO.none (AO.some AE.int)) AA.nil))) (AA.cons (AE.tup (AA.cons (AE.var (pv 4)) (AA.cons (AE.var (pv 5)) (AA.cons (AE.var (pv 5)) AA.nil)))) AA.nil))))) AA.nil)))))))))))
abbrev s__law_near : Stmt := topS 42
theorem sc__law_near : FnScope ["_law_bowl_here", "_law_pack_here", "_law_some", "_law_lot", "_law_spot"] ["_law_bowl_here", "_law_pack_here"] (defScope s__law_near) := ⟨rfl, rfl, rfl, by decide +kernel, rfl, by decide +kernel, by decide +kernel⟩
theorem bd__law_near (T : Tx P w K mg) : Binds K T.fd42 ["_law_bowl_here", "_law_pack_here"] [] := T.f42.bindsN fun _ _ _ _ _ _ us hl => match us, hl with | [_, _], _ => rfl
theorem ok__law_near (T : Tx P w K mg) : FnG P w K mg base 4 T.a42 T.fd42 ["_law_bowl_here", "_law_pack_here"] (ISp K 1 m__law_near_k28) := by
  refine fn_io (N := ["_law_bowl_here", "_law_pack_here", "_law_some", "_law_lot", "_law_spot"]) T.f42 sc__law_near rfl fun cdv hcd A outer s H E hr => ?_
  have tk := L2N.takes_of (X := cxOf (L2N.CX P w) P w K mg base ["_law_bowl_here", "_law_pack_here", "_law_some", "_law_lot", "_law_spot"] "_law_near" (defScope s__law_near) T.a42 cdv A outer s H E) (E := E) rfl rfl rfl rfl
  have hp := passes_of (X := cxOf (L2N.CX P w) P w K mg base ["_law_bowl_here", "_law_pack_here", "_law_some", "_law_lot", "_law_spot"] "_law_near" (defScope s__law_near) T.a42 cdv A outer s H E) rfl
  have hu := hr.units
  exact (AB.cons (AS.par rfl sc__law_near.nd rfl rfl (by decide) rfl rfl (AA.cons (AE.callIo (ok__law_bit T) (hr.mono (by decide)) (by rfl) T.g31 T.f31.kp (bd__law_bit T) tk (pv 0) (AA.cons AE.int AA.nil)) (AA.cons (AE.callIo (ok__law_bit T) (hr.mono (by decide)) (by rfl) T.g31 T.f31.kp (bd__law_bit T) tk (pv 0) (AA.cons (AE.blt CA.len (by rfl) T.n_len PySem.boot_len (AA.cons (AE.var (pv 1)) AA.nil)) AA.nil)) AA.nil)))
    (AB.cons (AS.if_ (AT.cmp OA.gt (AE.var (pv 3)) AE.int (nomark _)) (AB.one (AS.ret (AE.bin OA.add (AE.bin OA.add (AE.slice (AE.var (pv 1)) AO.none (AO.some (AE.var (pv 4)))) (AE.tup (AA.cons (AE.callIo (ok__law_bent_strand T) (hr.mono (by decide)) (by rfl) T.g41 T.f41.kp (bd__law_bent_strand T) tk (pv 0) (AA.cons (AE.ix (AE.var (pv 1)) (AE.var (pv 4))) AA.nil)) AA.nil))) (AE.slice (AE.var (pv 1)) (AO.some (AE.bin OA.add (AE.var (pv 4)) AE.int)) AO.none)))) AB.nil)
    (AB.cons (AS.set sc__law_near.nd rfl (.inl rfl) (AE.lst (AA.cons (AE.tup AA.nil) (AA.cons AE.non (AA.cons (AE.bty CA.list (by rfl) T.n_list (by decide +kernel) (AA.cons (AE.var (pv 1)) AA.nil)) (AA.cons (AE.ix (AE.var (pv 1)) AE.int) (AA.cons (AE.slice (AE.bin OA.mul (AE.var (pv 1)) AE.int) AO.none (AO.some AE.int)) (AA.cons (AE.slice (AE.bin OA.mul (AE.var (pv 1)) AE.int) AO.none (AO.some AE.int)) (AA.cons (AE.rev (AE.var (pv 1))) (AA.cons AE.dict0 (AA.cons AE.str (AA.cons (AE.slice (AE.var (pv 1)) (AO.some AE.int) AO.none) AA.nil))))))))))))
    (AB.one (AS.ret (AE.callIo (ok__law_pick T) (hr.mono (by decide)) (by rfl) T.g32 T.f32.kp (bd__law_pick T) tk (pv 0) (AA.cons (AE.var (pv 2)) AA.nil)))))))
abbrev s_System___len__ : Stmt := inCls (topS 26) 10
theorem sc_System___len__ : FnScope ["self"] ["self"] (defScope s_System___len__) := ⟨rfl, rfl, rfl, by decide +kernel, rfl, by decide +kernel, by decide +kernel⟩
theorem bd_System___len__ (T : Tx P w K mg) : Binds K T.fd26_10 ["self"] [] := T.f26_10.bindsN fun _ _ _ _ _ _ us hl => match us, hl with | [_], _ => rfl
theorem okh_System___len__ (T : Tx P w K mg) : FnGH P w K mg base 1 T.a26_10 T.fd26_10 ["self"] (PSp K 1 m_System___len__) := by
  refine fn_valH (k := 0) (N := ["self"]) T.f26_10 sc_System___len__ rfl fun cdv hcd A outer s H E p hot hr => ?_
  have tk := L2N.takes_of (X := L2H.cxH (L2N.CX P w) P w K mg base ["self"] "System.__len__" (defScope s_System___len__) T.a26_10 cdv A outer s H E p) (E := E) rfl rfl rfl rfl
  have hp := passes_of (X := L2H.cxH (L2N.CX P w) P w K mg base ["self"] "System.__len__" (defScope s_System___len__) T.a26_10 cdv A outer s H E p) rfl
  have hh : L2H.HotC (L2H.cxH (L2N.CX P w) P w K mg base ["self"] "System.__len__" (defScope s_System___len__) T.a26_10 cdv A outer s H E p) := ⟨p, hot, List.mem_cons_self ..⟩
  have hu := hr.units
  exact (AB.one (AS.ret (AE.blt CA.len (by rfl) T.n_len PySem.boot_len (AA.cons (AE.fld (cs := ["System"]) (AE.var (pv 0)) (by simp only [List.forall_mem_cons, List.not_mem_nil, false_implies, implies_true, and_true]; exact T.f_System_own_strands) (by rfl)) AA.nil))))
abbrev s__law_is_line : Stmt := topS 38
theorem sc__law_is_line : FnScope ["_law_value", "_law_size", "_law_good", "_law_one"] ["_law_value", "_law_size"] (defScope s__law_is_line) := ⟨rfl, rfl, rfl, by decide +kernel, rfl, by decide +kernel, by decide +kernel⟩
theorem bd__law_is_line (T : Tx P w K mg) : Binds K T.fd38 ["_law_value", "_law_size"] [] := T.f38.bindsN fun _ _ _ _ _ _ us hl => match us, hl with | [_, _], _ => rfl
theorem ok__law_is_line (T : Tx P w K mg) : FnG P w K mg base 1 T.a38 T.fd38 ["_law_value", "_law_size"] (PSp K 2 m__law_is_line_k28) := by
  refine fn_val (N := ["_law_value", "_law_size", "_law_good", "_law_one"]) T.f38 sc__law_is_line rfl fun cdv hcd A outer s H E hr => ?_
  have tk := L2N.takes_of (X := cxOf (L2N.CX P w) P w K mg base ["_law_value", "_law_size", "_law_good", "_law_one"] "_law_is_line" (defScope s__law_is_line) T.a38 cdv A outer s H E) (E := E) rfl rfl rfl rfl
  have hp := passes_of (X := cxOf (L2N.CX P w) P w K mg base ["_law_value", "_law_size", "_law_good", "_law_one"] "_law_is_line" (defScope s__law_is_line) T.a38 cdv A outer s H E) rfl
  have hu := hr.units
  exact (AB.cons (AS.if_ (AW.pt (AW.or (AT.not (AT.val (AE.blt CA.isi (by rfl) T.n_isinstance (by decide +kernel) (AA.cons (AE.var (pv 0)) (AA.cons (AE.ty (T := "tuple") (by rfl) T.n_tuple (by decide +kernel)) AA.nil))))) (AW.or1 (AT.cmp (OA.ne hu) (AE.blt CA.len (by rfl) T.n_len PySem.boot_len (AA.cons (AE.var (pv 0)) AA.nil)) (AE.var (pv 1)) (nomark _))))) (AB.one (AS.ret AE.bl)) AB.nil)
    (AB.cons (AS.setLc (own := [("_law_one", 3)]) (t := (.sl 3)) rfl sc__law_is_line.nd rfl rfl (sw_true rfl rfl rfl (by decide +kernel)) (AI.any (AE.var (pv 0))) (blkOk_by (N := ["_law_value", "_law_size", "_law_good", "_law_one"]) (sc := defScope s__law_is_line) (by decide +kernel)) (by decide) (fun _ _ _ _ _ => (AG.name sc__law_is_line.nd rfl (by first | exact .inl rfl | exact .inr rfl))) (fun _ _ _ _ _ => (ATs.one (AW.pt (AW.and (AT.val (AE.blt CA.isi (by rfl) T.n_isinstance (by decide +kernel) (AA.cons (AE.var (pv 3)) (AA.cons (AE.ty (T := "int") (by rfl) T.n_int (by decide +kernel)) AA.nil)))) (AW.and (AT.not (AT.val (AE.blt CA.isi (by rfl) T.n_isinstance (by decide +kernel) (AA.cons (AE.var (pv 3)) (AA.cons (AE.ty (T := "bool") (by rfl) T.n_bool (by decide +kernel)) AA.nil))))) (AW.and1 (AT.cmp OA.lt (AE.blt CA.abs (by rfl) T.n_abs (by decide +kernel) (AA.cons (AE.var (pv 3)) AA.nil)) (AE.bin OA.pow AE.int AE.int) (nomark _)))))))) (fun _ _ _ _ _ => (AE.var (pv 3))))
    (AB.one (AS.ret (AE.cmp (OA.eq hu) (AE.blt CA.len (by rfl) T.n_len PySem.boot_len (AA.cons (AE.var (pv 2)) AA.nil)) (AE.var (pv 1)) (nomark _))))))
abbrev s__law_is_pack : Stmt := topS 39
theorem sc__law_is_pack : FnScope ["_law_value", "_law_sizes", "_law_one", "_law_line_here"] ["_law_value"] (defScope s__law_is_pack) := ⟨rfl, rfl, rfl, by decide +kernel, rfl, by decide +kernel, by decide +kernel⟩
theorem bd__law_is_pack (T : Tx P w K mg) : Binds K T.fd39 ["_law_value"] [] := T.f39.bindsN fun _ _ _ _ _ _ us hl => match us, hl with | [_], _ => rfl
theorem ok__law_is_pack (T : Tx P w K mg) : FnG P w K mg base 2 T.a39 T.fd39 ["_law_value"] (PSp K 1 m__law_is_pack) := by
  refine fn_val (N := ["_law_value", "_law_sizes", "_law_one", "_law_line_here"]) T.f39 sc__law_is_pack rfl fun cdv hcd A outer s H E hr => ?_
  have tk := L2N.takes_of (X := cxOf (L2N.CX P w) P w K mg base ["_law_value", "_law_sizes", "_law_one", "_law_line_here"] "_law_is_pack" (defScope s__law_is_pack) T.a39 cdv A outer s H E) (E := E) rfl rfl rfl rfl
  have hp := passes_of (X := cxOf (L2N.CX P w) P w K mg base ["_law_value", "_law_sizes", "_law_one", "_law_line_here"] "_law_is_pack" (defScope s__law_is_pack) T.a39 cdv A outer s H E) rfl
  have hu := hr.units
  exact (AB.cons (AS.if_ (AW.pt (AW.or (AT.not (AT.val (AE.blt CA.isi (by rfl) T.n_isinstance (by decide +kernel) (AA.cons (AE.var (pv 0)) (AA.cons (AE.ty (T := "tuple") (by rfl) T.n_tuple (by decide +kernel)) AA.nil))))) (AW.or1 (AT.not (AT.chain OA.le OA.le AE.int (AE.blt CA.len (by rfl) T.n_len PySem.boot_len (AA.cons (AE.var (pv 0)) AA.nil)) AE.int))))) (AB.one (AS.ret AE.bl)) AB.nil)
    (AB.cons (AS.ownD sc__law_is_pack.nd rfl (.inl rfl) AND.empty)
    (AB.cons (AS.for_ hp rfl (AI.any (AE.var (pv 0))) (AG.name sc__law_is_pack.nd rfl (.inl rfl)) (AB.cons (AS.if_ (AW.pt (AW.or (AT.not (AT.val (AE.blt CA.isi (by rfl) T.n_isinstance (by decide +kernel) (AA.cons (AE.var (pv 2)) (AA.cons (AE.ty (T := "tuple") (by rfl) T.n_tuple (by decide +kernel)) AA.nil))))) (AW.or (AT.cmp (OA.ne hu) (AE.blt CA.len (by rfl) T.n_len PySem.boot_len (AA.cons (AE.var (pv 2)) AA.nil)) AE.int (nomark _)) (AW.or1 (AT.cmp (OA.notIn hu) (AE.blt (CA.repr hr.g hu) (by rfl) T.n_repr (by decide +kernel) (AA.cons (AE.ix (AE.var (pv 2)) AE.int) AA.nil)) (AE.tup (AA.cons AE.str (AA.cons AE.str (AA.cons AE.str AA.nil)))) rfl))))) (AB.one (AS.ret AE.bl)) AB.nil)
    (AB.cons (AS.if_ (AW.pt (AW.or (AT.not (AT.val (AE.blt CA.isi (by rfl) T.n_isinstance (by decide +kernel) (AA.cons (AE.ix (AE.var (pv 2)) AE.int) (AA.cons (AE.ty (T := "tuple") (by rfl) T.n_tuple (by decide +kernel)) AA.nil))))) (AW.or1 (AT.not (AT.chain OA.le OA.le AE.int (AE.blt CA.len (by rfl) T.n_len PySem.boot_len (AA.cons (AE.ix (AE.var (pv 2)) AE.int) AA.nil)) AE.int))))) (AB.one (AS.ret AE.bl)) AB.nil)
    (AB.one (AS.for_ hp rfl (AI.any (AE.ix (AE.var (pv 2)) AE.int)) (AG.name sc__law_is_pack.nd rfl (.inl rfl)) (AB.cons (AS.if_ (AW.pt (AW.or (AT.not (AT.val (AE.blt CA.isi (by rfl) T.n_isinstance (by decide +kernel) (AA.cons (AE.var (pv 3)) (AA.cons (AE.ty (T := "tuple") (by rfl) T.n_tuple (by decide +kernel)) AA.nil))))) (AW.or (AT.not (AT.chain OA.le OA.le AE.int (AE.blt CA.len (by rfl) T.n_len PySem.boot_len (AA.cons (AE.var (pv 3)) AA.nil)) AE.int)) (AW.or1 (AT.not (AT.val (AE.call (ok__law_is_line T) (hr.mono (by decide)) (by rfl) T.g38 T.f38.kp (bd__law_is_line T) .nil (fun _ _ => .nil) tk (AA.cons (AE.var (pv 3)) (AA.cons (AE.blt CA.len (by rfl) T.n_len PySem.boot_len (AA.cons (AE.var (pv 3)) AA.nil)) AA.nil))))))))) (AB.one (AS.ret AE.bl)) AB.nil)
    (AB.one (AS.dset hu AE.bl (pv 1) (AE.blt CA.len (by rfl) T.n_len PySem.boot_len (AA.cons (AE.var (pv 3)) AA.nil))))))))))
    (AB.one (AS.ret (AE.cmp (OA.eq hu) (AE.lenDN (pv 1) (by rfl) T.n_len) AE.int (nomark _)))))))
abbrev s_is_integer_within : Stmt := topS 5
theorem sc_is_integer_within : FnScope ["value", "low", "high"] ["value", "low", "high"] (defScope s_is_integer_within) := ⟨rfl, rfl, rfl, by decide +kernel, rfl, by decide +kernel, by decide +kernel⟩
theorem bd_is_integer_within (T : Tx P w K mg) : Binds K T.fd5 ["value", "low", "high"] [] := T.f5.bindsN fun _ _ _ _ _ _ us hl => match us, hl with | [_, _, _], _ => rfl
theorem okh_is_integer_within (T : Tx P w K mg) : FnGH P w K mg base 2 T.a5 T.fd5 ["value", "low", "high"] (PSp K 3 m_is_integer_within) := by
  refine fn_valH (k := 1) (N := ["value", "low", "high"]) T.f5 sc_is_integer_within rfl fun cdv hcd A outer s H E p hot hr => ?_
  have tk := L2N.takes_of (X := L2H.cxH (L2N.CX P w) P w K mg base ["value", "low", "high"] "is_integer_within" (defScope s_is_integer_within) T.a5 cdv A outer s H E p) (E := E) rfl rfl rfl rfl
  have hp := passes_of (X := L2H.cxH (L2N.CX P w) P w K mg base ["value", "low", "high"] "is_integer_within" (defScope s_is_integer_within) T.a5 cdv A outer s H E p) rfl
  have hh : L2H.HotC (L2H.cxH (L2N.CX P w) P w K mg base ["value", "low", "high"] "is_integer_within" (defScope s_is_integer_within) T.a5 cdv A outer s H E p) := ⟨p, hot, List.mem_cons_self ..⟩
  have hu := hr.units
  exact (AB.one (AS.ret (AE.and (AE.callH (okh_is_integer T) (hr.mono (by decide)) hh (by rfl) T.g4 T.f4.kp (bd_is_integer T) .nil (fun _ _ => .nil) tk (AA.cons (AE.var (pv 0)) AA.nil)) (AE.one (AE.chain OA.le OA.le (AE.var (pv 1)) (AE.var (pv 0)) (AE.var (pv 2)))))))
abbrev s_require_index : Stmt := topS 27
theorem sc_require_index : FnScope ["system", "value"] ["system", "value"] (defScope s_require_index) := ⟨rfl, rfl, rfl, by decide +kernel, rfl, by decide +kernel, by decide +kernel⟩
theorem bd_require_index (T : Tx P w K mg) : Binds K T.fd27 ["system", "value"] [] := T.f27.bindsN fun _ _ _ _ _ _ us hl => match us, hl with | [_, _], _ => rfl
theorem okh_require_index (T : Tx P w K mg) : FnGH P w K mg base 3 T.a27 T.fd27 ["system", "value"] (PSp K 2 m_require_index_h) := by
  refine fn_valH (k := 2) (N := ["system", "value"]) T.f27 sc_require_index rfl fun cdv hcd A outer s H E p hot hr => ?_
  have tk := L2N.takes_of (X := L2H.cxH (L2N.CX P w) P w K mg base ["system", "value"] "require_index" (defScope s_require_index) T.a27 cdv A outer s H E p) (E := E) rfl rfl rfl rfl
  have hp := passes_of (X := L2H.cxH (L2N.CX P w) P w K mg base ["system", "value"] "require_index" (defScope s_require_index) T.a27 cdv A outer s H E p) rfl
  have hh : L2H.HotC (L2H.cxH (L2N.CX P w) P w K mg base ["system", "value"] "require_index" (defScope s_require_index) T.a27 cdv A outer s H E p) := ⟨p, hot, List.mem_cons_self ..⟩
  have hu := hr.units
  exact (AB.one (AS.if_ (AT.not (AT.val (AE.callH (okh_is_integer_within T) (hr.mono (by decide)) hh (by rfl) T.g5 T.f5.kp (bd_is_integer_within T) .nil (fun _ _ => .nil) tk (AA.cons (AE.var (pv 1)) (AA.cons AE.int (AA.cons (AE.bin OA.sub (AE.blt CA.len (by rfl) T.n_len PySem.boot_len (AA.cons (AE.fld (cs := ["System"]) (AE.var (pv 0)) (by simp only [List.forall_mem_cons, List.not_mem_nil, false_implies, implies_true, and_true]; exact T.f_System_own_strands) (by rfl)) AA.nil)) AE.int) AA.nil)))))) (AB.one AS.never) AB.nil))
abbrev s_System_without_strand : Stmt := inCls (topS 26) 6
theorem sc_System_without_strand : FnScope ["self", "index"] ["self", "index"] (defScope s_System_without_strand) := ⟨rfl, rfl, rfl, by decide +kernel, rfl, by decide +kernel, by decide +kernel⟩
theorem bd_System_without_strand (T : Tx P w K mg) : Binds K T.fd26_6 ["self", "index"] [] := T.f26_6.bindsN fun _ _ _ _ _ _ us hl => match us, hl with | [_, _], _ => rfl
theorem okh_System_without_strand (T : Tx P w K mg) : FnGH P w K mg base 8 T.a26_6 T.fd26_6 ["self", "index"] (PSp K 2 m_System_without_strand_h) := by
  refine fn_valH (k := 7) (N := ["self", "index"]) T.f26_6 sc_System_without_strand rfl fun cdv hcd A outer s H E p hot hr => ?_
  have tk := L2N.takes_of (X := L2H.cxH (L2N.CX P w) P w K mg base ["self", "index"] "System.without_strand" (defScope s_System_without_strand) T.a26_6 cdv A outer s H E p) (E := E) rfl rfl rfl rfl
  have hp := passes_of (X := L2H.cxH (L2N.CX P w) P w K mg base ["self", "index"] "System.without_strand" (defScope s_System_without_strand) T.a26_6 cdv A outer s H E p) rfl
  have hh : L2H.HotC (L2H.cxH (L2N.CX P w) P w K mg base ["self", "index"] "System.without_strand" (defScope s_System_without_strand) T.a26_6 cdv A outer s H E p) := ⟨p, hot, List.mem_cons_self ..⟩
  have hu := hr.units
  exact (AB.cons (AS.expr (AE.callH (okh_require_index T) (hr.mono (by decide)) hh (by rfl) T.g27 T.f27.kp (bd_require_index T) .nil (fun _ _ => .nil) tk (AA.cons (AE.var (pv 0)) (AA.cons (AE.var (pv 1)) AA.nil))))
    (AB.one (AS.ret (AE.makeH T.k_System (okh_System___init__ T) (hr.mono (by decide)) hh (by rfl) T.o_System (bd_System___init__ T) .nil (fun _ _ => .nil) tk (AA.cons (AE.tup (AA.star (AE.slice (AE.fld (cs := ["System"]) (AE.var (pv 0)) (by simp only [List.forall_mem_cons, List.not_mem_nil, false_implies, implies_true, and_true]; exact T.f_System_own_strands) (by rfl)) AO.none (AO.some (AE.var (pv 1)))) (AA.star (AE.slice (AE.fld (cs := ["System"]) (AE.var (pv 0)) (by simp only [List.forall_mem_cons, List.not_mem_nil, false_implies, implies_true, and_true]; exact T.f_System_own_strands) (by rfl)) (AO.some (AE.bin OA.add (AE.var (pv 1)) AE.int)) AO.none) AA.nil))) AA.nil)))))
abbrev s_law : Stmt := topS 43
theorem sc_law : FnScope ["_law_script", "_law_at", "_law_full", "_law_bowl_here", "_law_pack_here", "_law_turn", "_law_value"] ["_law_script"] (defScope s_law) := ⟨rfl, rfl, rfl, by decide +kernel, rfl, by decide +kernel, by decide +kernel⟩
theorem ok_law (T : Tx P w K mg) : FnG P w K mg base 9 T.a43 T.fd43 ["_law_script"] (PSp K 1 m_law_k28) := by
  refine fn_val (N := ["_law_script", "_law_at", "_law_full", "_law_bowl_here", "_law_pack_here", "_law_turn", "_law_value"]) T.f43 sc_law rfl fun cdv hcd A outer s H E hr => ?_
  have tk := L2N.takes_of (X := cxOf (L2N.CX P w) P w K mg base ["_law_script", "_law_at", "_law_full", "_law_bowl_here", "_law_pack_here", "_law_turn", "_law_value"] "law" (defScope s_law) T.a43 cdv A outer s H E) (E := E) rfl rfl rfl rfl
  have hp := passes_of (X := cxOf (L2N.CX P w) P w K mg base ["_law_script", "_law_at", "_law_full", "_law_bowl_here", "_law_pack_here", "_law_turn", "_law_value"] "law" (defScope s_law) T.a43 cdv A outer s H E) rfl
  have hu := hr.units
  exact (AB.cons (AS.for_ hp rfl (AI.range1 (by rfl) T.n_range (AA.cons (AE.blt (CA.max2 rfl) (by rfl) T.n_max (by decide +kernel) (AA.cons AE.int (AA.cons (AE.blt (CA.min2 rfl) (by rfl) T.n_min (by decide +kernel) (AA.cons AE.int (AA.cons (AE.blt CA.len (by rfl) T.n_len PySem.boot_len (AA.cons (AE.var (pv 0)) AA.nil)) AA.nil))) AA.nil))) AA.nil)) (AG.name sc_law.nd rfl (.inl rfl)) (AB.cons (AS.own sc_law.nd rfl (.inl rfl) (AN.call (ok__law_bowl T) (hr.mono (by decide)) (by rfl) T.g30 T.f30.kp (bd__law_bowl T) tk (AA.cons (AE.var (pv 0)) (AA.cons (AE.var (pv 1)) AA.nil))))
    (AB.cons (AS.set sc_law.nd rfl (.inl rfl) (AE.callIo (ok__law_pack T) (hr.mono (by decide)) (by rfl) T.g37 T.f37.kp (bd__law_pack T) tk (pv 3) (AA.cons (AE.bin OA.add AE.int (AE.callIo (ok__law_bit T) (hr.mono (by decide)) (by rfl) T.g31 T.f31.kp (bd__law_bit T) tk (pv 3) (AA.cons AE.int AA.nil))) (AA.cons AE.int AA.nil))))
    (AB.cons (AS.if_ (AT.cmp (OA.ne hu) (AE.call (ok__law_told T) (hr.mono (by decide)) (by rfl) T.g40 T.f40.kp (bd__law_told T) .nil (fun _ _ => .nil) tk (AA.cons (AE.var (pv 4)) AA.nil)) (AE.var (pv 4)) (nomark _)) (AB.one (AS.ret AE.bl)) AB.nil)
    (AB.one (AS.for_ hp rfl (AI.range1 (by rfl) T.n_range (AA.cons AE.int AA.nil)) (AG.name sc_law.nd rfl (.inl rfl)) (AB.cons (AS.set sc_law.nd rfl (.inl rfl) (AE.callIo (ok__law_near T) (hr.mono (by decide)) (by rfl) T.g42 T.f42.kp (bd__law_near T) tk (pv 3) (AA.cons (AE.var (pv 4)) AA.nil)))
    (AB.cons (AS.if_ (AW.pt (AW.and (AT.cmp OA.gt (AE.var (pv 5)) AE.int (nomark _)) (AW.and (AT.val (AE.blt CA.isi (by rfl) T.n_isinstance (by decide +kernel) (AA.cons (AE.var (pv 6)) (AA.cons (AE.ty (T := "tuple") (by rfl) T.n_tuple (by decide +kernel)) AA.nil)))) (AW.and1 (AT.cmp (OA.ne hu) (AE.var (pv 6)) (AE.tup AA.nil) (nomark _)))))) (AB.one (AS.set sc_law.nd rfl (.inl rfl) (AE.ifx (AT.val (AE.call (ok__law_is_pack T) (hr.mono (by decide)) (by rfl) T.g39 T.f39.kp (bd__law_is_pack T) .nil (fun _ _ => .nil) tk (AA.cons (AE.var (pv 6)) AA.nil))) (AE.callIo (ok__law_near T) (hr.mono (by decide)) (by rfl) T.g42 T.f42.kp (bd__law_near T) tk (pv 3) (AA.cons (AE.var (pv 6)) AA.nil)) (AE.var (pv 6))))) AB.nil)
    (AB.one (AS.if_ (AT.cmp (OA.ne hu) (AE.call (ok__law_told T) (hr.mono (by decide)) (by rfl) T.g40 T.f40.kp (bd__law_told T) .nil (fun _ _ => .nil) tk (AA.cons (AE.var (pv 6)) AA.nil)) (AE.ifx (AT.val (AE.call (ok__law_is_pack T) (hr.mono (by decide)) (by rfl) T.g39 T.f39.kp (bd__law_is_pack T) .nil (fun _ _ => .nil) tk (AA.cons (AE.var (pv 6)) AA.nil))) (AE.var (pv 6)) AE.str) (nomark _)) (AB.one (AS.ret AE.bl)) AB.nil))))))))))
    (AB.cons (AS.set sc_law.nd rfl (.inl rfl) (AE.make T.k_System (ok_System___init__ T) (hr.mono (by decide)) (by rfl) T.o_System (bd_System___init__ T) .nil (fun _ _ => .nil) tk (AA.cons (AE.bin OA.mul (AE.tup (AA.cons (AE.tup (AA.cons AE.str (AA.cons (AE.tup (AA.cons (AE.tup (AA.cons AE.int AA.nil)) AA.nil)) AA.nil))) AA.nil)) AE.int) AA.nil)))
    (AB.cons (AS.try_ rfl rfl tk (fun W' pn xe tk po => (AB.one (AS.expr (AE.meth (cs := [(Str.ofString "System", m_System_with_strand)]) (k := 8) (n := 3) (AE.var (pv 2)) (by simp only [List.forall_mem_cons, List.not_mem_nil, false_implies, implies_true, and_true]; exact ⟨T.cl_System, _, _, _, T.m_System_with_strand, (ok_System_with_strand T).mono (by decide), bd_System_with_strand T⟩) (hr.mono (by decide)) tk (AA.cons AE.str (AA.cons (AE.tup (AA.cons (AE.tup (AA.cons AE.int AA.nil)) AA.nil)) AA.nil)))))) (AHs.one ⟨rfl, by decide, .inl T.o_InvalidSystem⟩ (ts := [(Str.ofString "InvalidNumber", false), (Str.ofString "InvalidSystem", true)]) (by simp only [List.forall_mem_cons, List.not_mem_nil, false_implies, implies_true, and_true]; exact ⟨T.x_InvalidNumber_InvalidSystem, T.x_InvalidSystem_InvalidSystem⟩) (fun y a oe d pn hz hf hct => (AB.one (AS.ret (AE.cmp (OA.eq hu) (AE.blt (CA.lenWH T.m_System___len__ (okh_System___len__ T) (hr.hot.mono (by decide)) (hotC_suite hz hf) (bd_System___len__ T)) (by rfl) T.n_len PySem.boot_len (AA.cons (AE.methH (cs := [(Str.ofString "System", m_System_without_strand_h)]) (k := 8) (n := 2) (AE.var (pv 2)) (by simp only [List.forall_mem_cons, List.not_mem_nil, false_implies, implies_true, and_true]; exact ⟨T.cl_System, _, _, _, T.m_System_without_strand, (okh_System_without_strand T).mono (by decide), bd_System_without_strand T⟩) (hr.hot.mono (by decide)) (hotC_suite hz hf) takes0N (AA.cons AE.int AA.nil)) AA.nil)) AE.int (nomark _))))) AHs.nil))
    (AB.one (AS.ret AE.bl)))))
end
end K28
namespace K28
open PySem PySem.Spec PyProof.Rows L2 Mr Pm
theorem tx {w : World} {K : PySem.W.Frag} {h : Heap} {mg : Str → Option Value} (X : K.In h) (G : h.Ns mainGlobals mg) (c : SaysM fa tb fn K) (lb : lamB ls K = true) (D : WdAt wd w K) : ∃ T : Tx PP w K mg, T.a43 = He.ga K "law" := by
  obtain ⟨fd4, F4⟩ := c.def_ 0 rfl
  obtain ⟨fd6, F6⟩ := c.def_ 1 rfl
  obtain ⟨fd7, F7⟩ := c.def_ 2 rfl
  obtain ⟨fd24, F24⟩ := c.def_ 3 rfl
  obtain ⟨fd25, F25⟩ := c.def_ 4 rfl
  obtain ⟨fd26_0, F26_0⟩ := c.def_ 5 rfl
  obtain ⟨fd30, F30⟩ := c.def_ 6 rfl
  obtain ⟨fd31, F31⟩ := c.def_ 7 rfl
  obtain ⟨fd32, F32⟩ := c.def_ 8 rfl
  obtain ⟨fd34, F34⟩ := c.def_ 9 rfl
  obtain ⟨fd35, F35⟩ := c.def_ 10 rfl
  obtain ⟨fd36, F36⟩ := c.def_ 11 rfl
  obtain ⟨fd33, F33⟩ := c.def_ 12 rfl
  obtain ⟨fd37, F37⟩ := c.def_ 13 rfl
  obtain ⟨fd26_5, F26_5⟩ := c.def_ 14 rfl
  obtain ⟨fd26_1, F26_1⟩ := c.def_ 15 rfl
  obtain ⟨fd40, F40⟩ := c.def_ 16 rfl
  obtain ⟨fd41, F41⟩ := c.def_ 17 rfl
  obtain ⟨fd42, F42⟩ := c.def_ 18 rfl
  obtain ⟨fd26_10, F26_10⟩ := c.def_ 19 rfl
  obtain ⟨fd38, F38⟩ := c.def_ 20 rfl
  obtain ⟨fd39, F39⟩ := c.def_ 21 rfl
  obtain ⟨fd5, F5⟩ := c.def_ 22 rfl
  obtain ⟨fd27, F27⟩ := c.def_ 23 rfl
  obtain ⟨fd26_6, F26_6⟩ := c.def_ 24 rfl
  obtain ⟨fd43, F43⟩ := c.def_ 25 rfl
  obtain ⟨t3, C3⟩ := He.int_ok X G (c.fact 34 rfl)
  obtain ⟨t20, C20⟩ := He.str_ok X G (c.fact 35 rfl)
  obtain ⟨t17, C17⟩ := He.int_ok X G (c.fact 36 rfl)
  obtain ⟨t18, C18⟩ := He.int_ok X G (c.fact 37 rfl)
  obtain ⟨t16, C16⟩ := He.int_ok X G (c.fact 38 rfl)
  obtain ⟨t15, C15⟩ := He.int_ok X G (c.fact 39 rfl)
  obtain ⟨t19, C19⟩ := He.str_ok X G (c.fact 40 rfl)
  obtain ⟨t21, C21⟩ := He.str_ok X G (c.fact 41 rfl)
  obtain ⟨t2, C2⟩ := He.int_ok X G (c.fact 42 rfl)
  exact ⟨⟨_, fd4, F4,
    He.glo_ok X G (c.fact 0 rfl),
    _, fd6, F6,
    He.glo_ok X G (c.fact 1 rfl),
    _, fd7, F7,
    He.glo_ok X G (c.fact 2 rfl),
    _, fd24, F24,
    He.glo_ok X G (c.fact 3 rfl),
    _, fd25, F25,
    He.glo_ok X G (c.fact 4 rfl),
    _, fd26_0, F26_0,
    He.mkr_ok (c.fact 5 rfl),
    _, fd30, F30,
    He.glo_ok X G (c.fact 6 rfl),
    _, fd31, F31,
    He.glo_ok X G (c.fact 7 rfl),
    _, fd32, F32,
    He.glo_ok X G (c.fact 8 rfl),
    _, fd34, F34,
    He.glo_ok X G (c.fact 9 rfl),
    _, fd35, F35,
    He.glo_ok X G (c.fact 10 rfl),
    _, fd36, F36,
    He.glo_ok X G (c.fact 11 rfl),
    _, fd33, F33,
    He.glo_ok X G (c.fact 12 rfl),
    _, fd37, F37,
    He.glo_ok X G (c.fact 13 rfl),
    _, fd26_5, F26_5,
    He.meth_ok (c.fact 14 rfl),
    _, fd26_1, F26_1,
    propB_ok (c.test 0 rfl),
    _, fd40, F40,
    He.glo_ok X G (c.fact 15 rfl),
    _, fd41, F41,
    He.glo_ok X G (c.fact 16 rfl),
    _, fd42, F42,
    He.glo_ok X G (c.fact 17 rfl),
    _, fd26_10, F26_10,
    He.meth_ok (c.fact 18 rfl),
    _, fd38, F38,
    He.glo_ok X G (c.fact 19 rfl),
    _, fd39, F39,
    He.glo_ok X G (c.fact 20 rfl),
    _, fd5, F5,
    He.glo_ok X G (c.fact 21 rfl),
    _, fd27, F27,
    He.glo_ok X G (c.fact 22 rfl),
    _, fd26_6, F26_6,
    He.meth_ok (c.fact 23 rfl),
    _, fd43, F43,
    He.glo_ok X G (c.fact 24 rfl),
    He.glo_ok X G (c.fact 25 rfl),
    He.glo_ok X G (c.fact 26 rfl),
    He.glo_ok X G (c.fact 27 rfl),
    He.cls_ok (c.fact 28 rfl),
    exc_of (c.fact 29 rfl),
    errI_ok exb_Index c (c.test 1 rfl) 26 rfl rfl (by decide +kernel) rfl rfl rfl (by decide +kernel) rfl rfl rfl rfl (fun _ _ _ _ => ⟨rfl, rfl, rfl, _, rfl⟩) (fun _ _ _ _ _ _ _ _ _ => rfl) (by decide) (by decide),
    He.exm_ok (c.fact 30 rfl),
    He.exm_ok (c.fact 31 rfl),
    ⟨He.cls_ok (c.fact 28 rfl), by simp only [List.forall_mem_cons, List.not_mem_nil, false_implies, implies_true, and_true]; exact He.noat_ok (c.fact 32 rfl)⟩,
    ⟨He.cls_ok (c.fact 28 rfl), by simp only [List.forall_mem_cons, List.not_mem_nil, false_implies, implies_true, and_true]; exact He.noat_ok (c.fact 33 rfl)⟩,
    t3, C3,
    t20, C20,
    t17, C17,
    t18, C18,
    t16, C16,
    t15, C15,
    t19, C19,
    t21, C21,
    t2, C2,
    He.free_ok X G (c.fact 43 rfl),
    He.free_ok X G (c.fact 44 rfl),
    He.free_ok X G (c.fact 45 rfl),
    He.free_ok X G (c.fact 46 rfl),
    He.free_ok X G (c.fact 47 rfl),
    He.free_ok X G (c.fact 48 rfl),
    He.free_ok X G (c.fact 49 rfl),
    He.free_ok X G (c.fact 50 rfl),
    He.free_ok X G (c.fact 51 rfl),
    He.free_ok X G (c.fact 52 rfl),
    He.free_ok X G (c.fact 53 rfl),
    He.free_ok X G (c.fact 54 rfl),
    He.free_ok X G (c.fact 55 rfl),
    He.free_ok X G (c.fact 56 rfl),
    He.free_ok X G (c.fact 57 rfl)⟩, rfl⟩
theorem holds (hm : ∀ ns : List Int, ns.length ≤ 63 → (∀ z ∈ ns, Builtin.Int.intBits z ≤ 1048576) → m_law_k28 [.frz (ns.map .int)] = .ok (.bl true)) : PySem.Challenge.rw_staystarts_k28_whole_systems_by_their_ru.Holds := by
  w_on; o_law
  refine HandSHeadRun.head_any (r := RR) (q := QQ) (H := hk) (ob := ob) (M := 8000) (loose := loose) (d := dd) (kwd := []) ob_eq b4 b5 run b6 b7 b8 b1 b9 b10 b2 ?hw ?hc
  case hw => w_witness2
  case hc =>
    refine walk_endM (l := PySem.Challenge.rw_staystarts_k28_whole_systems_by_their_ru) (n := 63) (k := 9) (x := "_law_script") (m := m_law_k28) (fun _ => rfl) rfl (by decide) b12 ⟨⟨rfl, by decide, by decide⟩, rfl⟩ (fun w K mg h f X G c lb D hmg0 => ?_) hm
    have hmg : mg ("law" : PySem.Str) = some (.ref f) := by
      rw [← b11]
      exact hmg0
    obtain ⟨T, hT⟩ := tx (w := w) X G c lb D
    have e : T.a43 = f := by
      have e1 := T.g43.symm.trans hmg
      cases e1
      rfl
    subst e
    have b := FunD.bindsA (ps := ["_law_script"]) T.f43 fun _ _ _ _ _ _ us hl => match us, hl with | [_], _ => rfl
    exact ⟨_, fun s v => b s [v] rfl, fun base => ok_law T⟩
end K28
namespace Mr
open PySem PySem.Spec PyProof.Rows L2
/-- of at most n bits -/
def Sz (n : Nat) (i : Int) : Prop := i.natAbs < 2 ^ n
section
variable {a b n k : Nat} {i j : Int}
theorem Sz.mono (h : Sz a i) (l : a ≤ b) : Sz b i := Nat.lt_of_lt_of_le h (Nat.pow_le_pow_right (by decide) l)
theorem Sz.neg (h : Sz a i) : Sz a (-i) := by unfold Sz at *; rw [Int.natAbs_neg]; exact h
theorem Sz.add (h : Sz a i) (h' : Sz b j) : Sz (max a b + 1) (i + j) := by
  have h1 := h.mono (Nat.le_max_left a b)
  have h2 := h'.mono (Nat.le_max_right a b)
  unfold Sz at *
  rw [Nat.pow_succ]
  have := Int.natAbs_add_le i j
  omega
theorem Sz.sub (h : Sz a i) (h' : Sz b j) : Sz (max a b + 1) (i - j) := by
  rw [Int.sub_eq_add_neg]; exact h.add h'.neg
theorem Sz.mul (h : Sz a i) (h' : Sz b j) : Sz (a + b) (i * j) := by
  unfold Sz at *
  rw [Int.natAbs_mul, Nat.pow_add]
  exact Nat.mul_lt_mul'' h h'
theorem Sz.bits (h : Sz a i) : Builtin.Int.intBits i ≤ a := PyProof.Rows.intBits_le h
theorem Sz.mulOk (h : Sz a i) (h' : Sz b j) (l : a + b ≤ 134217728) : mulOk i j := by
  have h1 := h.bits
  have h2 := h'.bits
  unfold Mr.mulOk
  omega
theorem Sz.lt (h : Sz a i) : i < ((2 ^ a : Nat) : Int) := by unfold Sz at h; omega
theorem Sz.gt (h : Sz a i) : -((2 ^ a : Nat) : Int) < i := by unfold Sz at h; omega
theorem Sz.of (h : -((2 ^ a : Nat) : Int) < i) (h' : i < ((2 ^ a : Nat) : Int)) : Sz a i := by unfold Sz; omega
theorem Sz.of_nat (h : 0 ≤ i) (h' : i < ((2 ^ a : Nat) : Int)) : Sz a i := by unfold Sz; omega
theorem Sz.of_abs (h : Sz a i) (h' : j.natAbs ≤ i.natAbs) : Sz a j := Nat.lt_of_le_of_lt h' h
theorem Sz.zero : Sz a 0 := by unfold Sz; exact Nat.two_pow_pos a
theorem Sz.one : Sz 1 1 := by unfold Sz; decide
theorem Sz.fmod (h : Sz b j) (hj : 0 < j) : Sz b (i.fmod j) := by
  have h1 := Int.fmod_nonneg_of_pos i hj
  have h2 := Int.fmod_lt_of_pos i hj
  unfold Sz at *
  omega
theorem Sz.divOk (h : Sz b j) (hj : j ≠ 0) (l : b ≤ 9000 := by decide) : divOk i j := by
  refine ⟨hj, ?_⟩
  unfold Builtin.divisionGoesByPylong
  have hl : j.natAbs.log2 < 9000 := by
    have h1 : j.natAbs ≠ 0 := by omega
    have := (Nat.log2_lt h1).mpr (Nat.lt_of_lt_of_le h (Nat.pow_le_pow_right (by decide) l))
    exact this
  have : ¬ ((j.natAbs.log2 / 30 + 1) > 300) := by omega
  simp only [Bool.and_eq_false_iff, decide_eq_false_iff_not]
  left
  split <;> omega
theorem Sz.sum : ∀ {xs : List Int} {k : Nat}, (∀ x ∈ xs, Sz a x) → xs.length ≤ 2 ^ k → Sz (a + k) xs.sum := by
  intro xs k h hl
  have main : ∀ ys : List Int, (∀ x ∈ ys, Sz a x) → ys.sum.natAbs ≤ ys.length * 2 ^ a := by
    intro ys
    induction ys with
    | nil => intro _; simp
    | cons y ys ih =>
      intro h
      have h1 := ih fun x hx => h x (List.mem_cons_of_mem _ hx)
      have h2 : y.natAbs < 2 ^ a := h y (List.mem_cons_self ..)
      rw [List.sum_cons, List.length_cons, Nat.succ_mul]
      have := Int.natAbs_add_le y ys.sum
      omega
  unfold Sz
  by_cases e : xs = []
  · subst e; simp [Nat.two_pow_pos]
  have h1 := main xs h
  have strict : xs.sum.natAbs < xs.length * 2 ^ a := by
    cases xs with
    | nil => exact absurd rfl e
    | cons y ys =>
      have h1 := main ys fun x hx => h x (List.mem_cons_of_mem _ hx)
      have h2 : y.natAbs < 2 ^ a := h y (List.mem_cons_self ..)
      rw [List.sum_cons, List.length_cons, Nat.succ_mul]
      have := Int.natAbs_add_le y ys.sum
      omega
  rw [Nat.pow_add, Nat.mul_comm (2 ^ a)]
  exact Nat.lt_of_lt_of_le strict (Nat.mul_le_mul_right _ hl)
theorem Sz.abs (h : Sz a i) : Sz a (if i < 0 then -i else i) := by
  split
  · exact h.neg
  · exact h
end

section
variable {α β : Type}
@[simp] theorem R.bind_ok (a : α) (ρ : Ro) (k : α → Ro → R β) : (R.ok a ρ).bind k = k a ρ := id rfl
@[simp] theorem R.bind_exc (a : Ex) (ρ : Ro) (k : α → Ro → R β) : (R.exc a ρ).bind k = .exc a ρ := id rfl
@[simp] theorem R.bind_stuck (k : α → Ro → R β) : (R.stuck).bind k = .stuck := id rfl
@[simp] theorem FR.lift_ok (a : α) (ρ : Ro) : (FR.ok a).lift ρ = .ok a ρ := id rfl
@[simp] theorem FR.lift_exc (a : Ex) (ρ : Ro) : (FR.exc a : FR α).lift ρ = .exc a ρ := id rfl
@[simp] theorem FR.lift_stuck (ρ : Ro) : (FR.stuck : FR α).lift ρ = .stuck := id rfl
@[simp] theorem R.nox_ok (a : α) (ρ : Ro) : (R.ok a ρ).nox = .ok a ρ := id rfl
end
section
variable {ρ : Ro} {a b c : M D} {g h : D → D → FR D} {u : D → FR D} {l : List D → FR D} {as : M (List D)} {t t' : M Bool} {d e : D} {i j : Nat}
@[simp] theorem ap_C : mC d ρ = .ok d ρ := id rfl
@[simp] theorem ap_Var0 {s : List SV} : mVar 0 (.val d :: s) = .ok d (.val d :: s) := id rfl
@[simp] theorem ap_Var1 {s0 : SV} {s : List SV} : mVar 1 (s0 :: .val d :: s) = .ok d (s0 :: .val d :: s) := id rfl
@[simp] theorem ap_Var2 {s0 s1 : SV} {s : List SV} : mVar 2 (s0 :: s1 :: .val d :: s) = .ok d (s0 :: s1 :: .val d :: s) := id rfl
@[simp] theorem ap_Var3 {s0 s1 s2 : SV} {s : List SV} : mVar 3 (s0 :: s1 :: s2 :: .val d :: s) = .ok d (s0 :: s1 :: s2 :: .val d :: s) := id rfl
@[simp] theorem ap_Var4 {s0 s1 s2 s3 : SV} {s : List SV} : mVar 4 (s0 :: s1 :: s2 :: s3 :: .val d :: s) = .ok d (s0 :: s1 :: s2 :: s3 :: .val d :: s) := id rfl
@[simp] theorem ap_Var5 {s0 s1 s2 s3 s4 : SV} {s : List SV} : mVar 5 (s0 :: s1 :: s2 :: s3 :: s4 :: .val d :: s) = .ok d (s0 :: s1 :: s2 :: s3 :: s4 :: .val d :: s) := id rfl
@[simp] theorem ap_Var6 {s0 s1 s2 s3 s4 s5 : SV} {s : List SV} : mVar 6 (s0 :: s1 :: s2 :: s3 :: s4 :: s5 :: .val d :: s) = .ok d (s0 :: s1 :: s2 :: s3 :: s4 :: s5 :: .val d :: s) := id rfl
@[simp] theorem ap_Var7 {s0 s1 s2 s3 s4 s5 s6 : SV} {s : List SV} : mVar 7 (s0 :: s1 :: s2 :: s3 :: s4 :: s5 :: s6 :: .val d :: s) = .ok d (s0 :: s1 :: s2 :: s3 :: s4 :: s5 :: s6 :: .val d :: s) := id rfl
@[simp] theorem ap_Var8 {s0 s1 s2 s3 s4 s5 s6 s7 : SV} {s : List SV} : mVar 8 (s0 :: s1 :: s2 :: s3 :: s4 :: s5 :: s6 :: s7 :: .val d :: s) = .ok d (s0 :: s1 :: s2 :: s3 :: s4 :: s5 :: s6 :: s7 :: .val d :: s) := id rfl
@[simp] theorem ap_Var9 {s0 s1 s2 s3 s4 s5 s6 s7 s8 : SV} {s : List SV} : mVar 9 (s0 :: s1 :: s2 :: s3 :: s4 :: s5 :: s6 :: s7 :: s8 :: .val d :: s) = .ok d (s0 :: s1 :: s2 :: s3 :: s4 :: s5 :: s6 :: s7 :: s8 :: .val d :: s) := id rfl
@[simp] theorem ap_Var10 {s0 s1 s2 s3 s4 s5 s6 s7 s8 s9 : SV} {s : List SV} : mVar 10 (s0 :: s1 :: s2 :: s3 :: s4 :: s5 :: s6 :: s7 :: s8 :: s9 :: .val d :: s) = .ok d (s0 :: s1 :: s2 :: s3 :: s4 :: s5 :: s6 :: s7 :: s8 :: s9 :: .val d :: s) := id rfl
@[simp] theorem ap_Var11 {s0 s1 s2 s3 s4 s5 s6 s7 s8 s9 s10 : SV} {s : List SV} : mVar 11 (s0 :: s1 :: s2 :: s3 :: s4 :: s5 :: s6 :: s7 :: s8 :: s9 :: s10 :: .val d :: s) = .ok d (s0 :: s1 :: s2 :: s3 :: s4 :: s5 :: s6 :: s7 :: s8 :: s9 :: s10 :: .val d :: s) := id rfl
@[simp] theorem ap_2 : m2 g a b ρ = (a ρ).bind fun x ρ => (b ρ).bind fun y ρ => (g x y).lift ρ := id rfl
@[simp] theorem ap_1 : m1 u a ρ = (a ρ).bind fun x ρ => (u x).lift ρ := id rfl
@[simp] theorem ap_L : mL l as ρ = (as ρ).bind fun xs ρ => (l xs).lift ρ := id rfl
@[simp] theorem ap_Nil : mNil ρ = .ok [] ρ := id rfl
@[simp] theorem ap_Cons : mCons a as ρ = (a ρ).bind fun x ρ => (as ρ).bind fun xs ρ => .ok (x :: xs) ρ := id rfl
@[simp] theorem ap_If : mIf t a b ρ = (t ρ).bind fun c ρ => bif c then a ρ else b ρ := by
  unfold mIf; congr; funext c ρ; cases c <;> rfl
@[simp] theorem ap_And : mAnd a b ρ = (a ρ).bind fun x ρ => match x with
  | .bl c => bif c then b ρ else .ok (.bl false) ρ
  | _ => .stuck := by
  unfold mAnd; congr; funext x ρ
  cases x with
  | bl c => cases c <;> rfl
  | _ => rfl
@[simp] theorem ap_Or : mOr a b ρ = (a ρ).bind fun x ρ => match x with
  | .bl c => bif c then .ok (.bl true) ρ else b ρ
  | _ => .stuck := by
  unfold mOr; congr; funext x ρ
  cases x with
  | bl c => cases c <;> rfl
  | _ => rfl
@[simp] theorem ap_Chain : mChain g h a b c ρ = (a ρ).bind fun x ρ => (b ρ).bind fun y ρ => ((g x y).lift ρ).bind fun z ρ => match z with
  | .bl k => bif k then (c ρ).bind fun w ρ => (h y w).lift ρ else .ok (.bl false) ρ
  | _ => .stuck := by
  unfold mChain; congr; funext x ρ; congr; funext y ρ; congr; funext z ρ
  cases z with
  | bl c => cases c <;> rfl
  | _ => rfl
@[simp] theorem ap_tOf : tOf a ρ = (a ρ).bind fun x ρ => match x with
  | .bl b => .ok b ρ
  | _ => .stuck := id rfl
@[simp] theorem ap_tNot : tNot t ρ = (t ρ).bind fun b ρ => .ok (!b) ρ := id rfl
@[simp] theorem ap_tAnd : tAnd t t' ρ = (t ρ).bind fun c ρ => bif c then t' ρ else .ok false ρ := by
  unfold tAnd; congr; funext c ρ; cases c <;> rfl
@[simp] theorem ap_tOr : tOr t t' ρ = (t ρ).bind fun c ρ => bif c then .ok true ρ else t' ρ := by
  unfold tOr; congr; funext c ρ; cases c <;> rfl
@[simp] theorem ap_tYes : tYesM ρ = .ok true ρ := id rfl
variable {x y : M Fl} {tg : Tg} {it : M (List D)}
@[simp] theorem ap_Nx : xNx ρ = .ok .nx ρ := id rfl
@[simp] theorem ap_Never : xNever ρ = .stuck := id rfl
@[simp] theorem ap_Bk : xBk ρ = .ok .bk ρ := id rfl
@[simp] theorem ap_Ct : xCt ρ = .ok .ct ρ := id rfl
@[simp] theorem ap_Seq : xSeq x y ρ = (x ρ).bind fun f ρ => match f with
  | .nx => y ρ
  | f => .ok f ρ := id rfl
@[simp] theorem ap_Ret : xRet a ρ = (a ρ).bind fun d ρ => .ok (.rt d) ρ := id rfl
@[simp] theorem ap_RetN : xRetN as ρ = (as ρ).bind fun d ρ => .ok (.rn d) ρ := id rfl
@[simp] theorem ap_xIf : xIf t x y ρ = (t ρ).bind fun c ρ => bif c then x ρ else y ρ := by
  unfold xIf; congr; funext c ρ; cases c <;> rfl
@[simp] theorem ap_Drop : xDrop a ρ = (a ρ).bind fun _ ρ => .ok .nx ρ := id rfl
@[simp] theorem ap_Put : xPut tg a ρ = (a ρ).bind fun d ρ => (putT tg d ρ).bind fun _ ρ => .ok .nx ρ := id rfl
@[simp] theorem ap_putS : putT (.sl i) d ρ = if (ρ.getD i .un).isIo = true then .stuck else .ok () (ρ.set i (.val d)) := by unfold putT; rfl
@[simp] theorem ap_putT {ts : List Tg} {xs : List D} : putT (.tp ts) (.tup xs) ρ = if xs.length = lenT ts then putTs ts xs ρ else .stuck := by rw [putT]
@[simp] theorem ap_putNil : putTs [] [] ρ = .ok () ρ := by unfold putTs; rfl
@[simp] theorem ap_putCons {t : Tg} {ts : List Tg} {xs : List D} : putTs (t :: ts) (d :: xs) ρ = (putT t d ρ).bind fun _ ρ => putTs ts xs ρ := by rw [putTs]
@[simp] theorem lenT_nil : lenT [] = 0 := by unfold lenT; rfl
@[simp] theorem lenT_cons {t : Tg} {ts : List Tg} : lenT (t :: ts) = lenT ts + 1 := by rw [lenT]
@[simp] theorem isIo_un : SV.un.isIo = false := id rfl
@[simp] theorem isIo_val : (SV.val d).isIo = false := id rfl
@[simp] theorem isIo_own {p : Bool} {xs : List D} : (SV.own p xs).isIo = p := id rfl
@[simp] theorem isOwn_un : SV.un.isOwn = false := id rfl
@[simp] theorem isOwn_val : (SV.val d).isOwn = false := id rfl
@[simp] theorem isOwn_own {p : Bool} {xs : List D} : (SV.own p xs).isOwn = true := id rfl
@[simp] theorem flag_own {p q : Bool} {xs : List D} : (SV.own p xs).flag q = .own q xs := id rfl
@[simp] theorem ap_Call {m : List D → FR D} {n : Nat} {dd : List D} : mCall m n dd as ρ = (as ρ).bind fun ds ρ => (if ds.length + dd.length = n then m (ds ++ dd) else .stuck).lift ρ := id rfl
@[simp] theorem ap_CallN {m : List D → FR (List D)} {n : Nat} : mCallN m n as ρ = (as ρ).bind fun ds ρ => (if ds.length = n then m ds else .stuck).lift ρ := id rfl
@[simp] theorem ap_OfN : mOfN as ρ = (as ρ).bind fun ds ρ => .ok (.lst ds) ρ := id rfl
@[simp] theorem ap_LstN : mLstN as ρ = (as ρ).bind fun ds ρ => if ds.length ≤ sizeLine then .ok ds ρ else .stuck := id rfl
@[simp] theorem ap_xOwn : xOwn i as ρ = (as ρ).bind fun ds ρ => if (ρ.getD i .un).isIo = true then .stuck else .ok .nx (ρ.set i (.own false ds)) := id rfl
@[simp] theorem ap_IxN0 {p : Bool} {xs : List D} {s : List SV} : mIxN 0 a (.own p xs :: s) = (a (.own p xs :: s)).bind fun i ρ => match ρ.getD 0 .un, i with
    | .own _ xs, .int k => match atI xs k with
      | some d => .ok d ρ
      | none => .stuck
    | _, _ => .stuck := id rfl
@[simp] theorem ap_SetIx0 : xSetIx 0 a b ρ = (a ρ).bind fun v ρ => match ρ.getD 0 .un with
  | .own _ _ => (b ρ).bind fun i ρ => match ρ.getD 0 .un, i with
    | .own p xs, .int k => match ixN xs.length k with
      | some n => .ok .nx (ρ.set 0 (.own p (xs.set n v)))
      | none => .stuck
    | _, _ => .stuck
  | _ => .stuck := id rfl
@[simp] theorem ap_Io {mi : SV → List D → IR} {n : Nat} (ho : (ρ.getD j .un).isOwn = true) : mIo mi n j as ρ = (as ρ).bind fun ds ρ =>
    if ds.length = n ∧ (ρ.getD j .un).isOwn = true then match mi ((ρ.getD j .un).flag true) ds with
      | .ok d sv => .ok d (ρ.set j (sv.flag (ρ.getD j .un).isIo))
      | .exc x sv => .exc x (ρ.set j (sv.flag (ρ.getD j .un).isIo))
      | .stuck => .stuck
    else .stuck := by unfold mIo; exact if_pos ho
@[simp] theorem ap_For : xFor it tg x ρ = (it ρ).bind fun ds ρ => forM tg x ds ρ := id rfl
theorem ap_forC {ds : List D} : forM tg x (d :: ds) ρ = (putT tg d ρ).bind fun _ ρ => (x ρ).bind fun f ρ => match f with
    | .nx => forM tg x ds ρ
    | .ct => forM tg x ds ρ
    | .bk => .ok .nx ρ
    | .rt r => .ok (.rt r) ρ
    | .rn r => .ok (.rn r) ρ := id rfl
@[simp] theorem ap_forN : forM tg x [] ρ = .ok .nx ρ := id rfl
@[simp] theorem ap_Walk : mWalk a ρ = (a ρ).bind fun x ρ => (walkD x).lift ρ := id rfl
@[simp] theorem ap_ItL {q : List D → FR (List D)} : mItL q as ρ = (as ρ).bind fun xs ρ => (q xs).lift ρ := id rfl
@[simp] theorem ap_Lc {vs : List Nat} : mLc it vs tg t a ρ = (it ρ).bind fun ds ρ => (lcM vs tg t a ds [] ρ).nox := id rfl
@[simp] theorem ap_Fld {c f : Str} : xFld j c f a ρ = (a ρ).bind fun d ρ => match ρ.getD j .un with
  | .ins p c' ns ds => if c' = c ∧ ns.length < 1000 then .ok .nx (ρ.set j (.ins p c (putN f ns) (putX f d ns ds))) else .stuck
  | _ => .stuck := id rfl
@[simp] theorem ap_Make {c : Str} {mi : SV → List D → IR} {n : Nat} {dd : List D} : mMake c mi n dd as ρ = (as ρ).bind fun ds ρ => if ds.length + dd.length = n then match mi (.ins true c [] []) (ds ++ dd) with
    | .ok .non (.ins _ c' ns xs) => if c' = c then .ok (.obj c ns xs) ρ else .stuck
    | .exc x _ => .exc x ρ
    | _ => .stuck
  else .stuck := id rfl
@[simp] theorem ap_ListN : mListN as ρ = (as ρ).bind fun ds ρ => (listN ds).lift ρ := id rfl
@[simp] theorem ap_BinN {q : D → D → FR (List D)} : mBinN q a b ρ = (a ρ).bind fun x ρ => (b ρ).bind fun y ρ => (q x y).lift ρ := id rfl
@[simp] theorem ap_Slice {lo hi : M (Option Int)} : mSlice a lo hi ρ = (a ρ).bind fun x ρ => (lo ρ).bind fun l ρ => (hi ρ).bind fun h ρ => (sliceD x l h).lift ρ := id rfl
@[simp] theorem ap_ONone : mONone ρ = .ok Option.none ρ := id rfl
@[simp] theorem ap_OSome : mOSome a ρ = (a ρ).bind fun d ρ => match d with
  | .int i => .ok (some i) ρ
  | _ => .stuck := id rfl
@[simp] theorem listN_l {xs : List D} : listN [.lst xs] = .ok xs := id rfl
@[simp] theorem listN_t {xs : List D} : listN [.tup xs] = .ok xs := id rfl
@[simp] theorem isIo_ins {p : Bool} {c : Str} {ns : List Str} {ds : List D} : (SV.ins p c ns ds).isIo = p := id rfl
@[simp] theorem isOwn_ins {p : Bool} {c : Str} {ns : List Str} {ds : List D} : (SV.ins p c ns ds).isOwn = true := id rfl
@[simp] theorem ap_App0 {p : Bool} {ys : List D} {s : List SV} : mApp 0 a (.own p ys :: s) = (a (.own p ys :: s)).bind fun v ρ => match ρ.getD 0 .un with
    | .own p xs => if xs.length < sizeLine then .ok .non (ρ.set 0 (.own p (xs ++ [v]))) else .stuck
    | _ => .stuck := id rfl
@[simp] theorem ap_Len0 {p : Bool} {ys : List D} {s : List SV} : mLenN 0 (.own p ys :: s) = .ok (.int ys.length) (.own p ys :: s) := id rfl
@[simp] theorem ap_PopAt0 {p : Bool} {ys : List D} {s : List SV} : mPopAt 0 a (.own p ys :: s) = (a (.own p ys :: s)).bind fun v ρ => match ρ.getD 0 .un, v with
    | .own p xs, .int i => match seqIndex? i xs.length with
      | some k => if I63 i then match xs[k]? with
        | some d => .ok d (ρ.set 0 (.own p (xs.eraseIdx k)))
        | none => .stuck
        else .stuck
      | none => .stuck
    | _, _ => .stuck := id rfl
@[simp] theorem ap_VarO0 {ys : List D} {s : List SV} : mVar 0 (.own false ys :: s) = .ok (.lst ys) (.val (.lst ys) :: s) := id rfl
@[simp] theorem ap_App1 {s0 : SV} {p : Bool} {ys : List D} {s : List SV} : mApp 1 a (s0 :: .own p ys :: s) = (a (s0 :: .own p ys :: s)).bind fun v ρ => match ρ.getD 1 .un with
    | .own p xs => if xs.length < sizeLine then .ok .non (ρ.set 1 (.own p (xs ++ [v]))) else .stuck
    | _ => .stuck := id rfl
@[simp] theorem ap_Len1 {s0 : SV} {p : Bool} {ys : List D} {s : List SV} : mLenN 1 (s0 :: .own p ys :: s) = .ok (.int ys.length) (s0 :: .own p ys :: s) := id rfl
@[simp] theorem ap_PopAt1 {s0 : SV} {p : Bool} {ys : List D} {s : List SV} : mPopAt 1 a (s0 :: .own p ys :: s) = (a (s0 :: .own p ys :: s)).bind fun v ρ => match ρ.getD 1 .un, v with
    | .own p xs, .int i => match seqIndex? i xs.length with
      | some k => if I63 i then match xs[k]? with
        | some d => .ok d (ρ.set 1 (.own p (xs.eraseIdx k)))
        | none => .stuck
        else .stuck
      | none => .stuck
    | _, _ => .stuck := id rfl
@[simp] theorem ap_VarO1 {s0 : SV} {ys : List D} {s : List SV} : mVar 1 (s0 :: .own false ys :: s) = .ok (.lst ys) (s0 :: .val (.lst ys) :: s) := id rfl
@[simp] theorem ap_App2 {s0 s1 : SV} {p : Bool} {ys : List D} {s : List SV} : mApp 2 a (s0 :: s1 :: .own p ys :: s) = (a (s0 :: s1 :: .own p ys :: s)).bind fun v ρ => match ρ.getD 2 .un with
    | .own p xs => if xs.length < sizeLine then .ok .non (ρ.set 2 (.own p (xs ++ [v]))) else .stuck
    | _ => .stuck := id rfl
@[simp] theorem ap_Len2 {s0 s1 : SV} {p : Bool} {ys : List D} {s : List SV} : mLenN 2 (s0 :: s1 :: .own p ys :: s) = .ok (.int ys.length) (s0 :: s1 :: .own p ys :: s) := id rfl
@[simp] theorem ap_PopAt2 {s0 s1 : SV} {p : Bool} {ys : List D} {s : List SV} : mPopAt 2 a (s0 :: s1 :: .own p ys :: s) = (a (s0 :: s1 :: .own p ys :: s)).bind fun v ρ => match ρ.getD 2 .un, v with
    | .own p xs, .int i => match seqIndex? i xs.length with
      | some k => if I63 i then match xs[k]? with
        | some d => .ok d (ρ.set 2 (.own p (xs.eraseIdx k)))
        | none => .stuck
        else .stuck
      | none => .stuck
    | _, _ => .stuck := id rfl
@[simp] theorem ap_VarO2 {s0 s1 : SV} {ys : List D} {s : List SV} : mVar 2 (s0 :: s1 :: .own false ys :: s) = .ok (.lst ys) (s0 :: s1 :: .val (.lst ys) :: s) := id rfl
@[simp] theorem ap_App3 {s0 s1 s2 : SV} {p : Bool} {ys : List D} {s : List SV} : mApp 3 a (s0 :: s1 :: s2 :: .own p ys :: s) = (a (s0 :: s1 :: s2 :: .own p ys :: s)).bind fun v ρ => match ρ.getD 3 .un with
    | .own p xs => if xs.length < sizeLine then .ok .non (ρ.set 3 (.own p (xs ++ [v]))) else .stuck
    | _ => .stuck := id rfl
@[simp] theorem ap_Len3 {s0 s1 s2 : SV} {p : Bool} {ys : List D} {s : List SV} : mLenN 3 (s0 :: s1 :: s2 :: .own p ys :: s) = .ok (.int ys.length) (s0 :: s1 :: s2 :: .own p ys :: s) := id rfl
@[simp] theorem ap_PopAt3 {s0 s1 s2 : SV} {p : Bool} {ys : List D} {s : List SV} : mPopAt 3 a (s0 :: s1 :: s2 :: .own p ys :: s) = (a (s0 :: s1 :: s2 :: .own p ys :: s)).bind fun v ρ => match ρ.getD 3 .un, v with
    | .own p xs, .int i => match seqIndex? i xs.length with
      | some k => if I63 i then match xs[k]? with
        | some d => .ok d (ρ.set 3 (.own p (xs.eraseIdx k)))
        | none => .stuck
        else .stuck
      | none => .stuck
    | _, _ => .stuck := id rfl
@[simp] theorem ap_VarO3 {s0 s1 s2 : SV} {ys : List D} {s : List SV} : mVar 3 (s0 :: s1 :: s2 :: .own false ys :: s) = .ok (.lst ys) (s0 :: s1 :: s2 :: .val (.lst ys) :: s) := id rfl
@[simp] theorem ap_App4 {s0 s1 s2 s3 : SV} {p : Bool} {ys : List D} {s : List SV} : mApp 4 a (s0 :: s1 :: s2 :: s3 :: .own p ys :: s) = (a (s0 :: s1 :: s2 :: s3 :: .own p ys :: s)).bind fun v ρ => match ρ.getD 4 .un with
    | .own p xs => if xs.length < sizeLine then .ok .non (ρ.set 4 (.own p (xs ++ [v]))) else .stuck
    | _ => .stuck := id rfl
@[simp] theorem ap_Len4 {s0 s1 s2 s3 : SV} {p : Bool} {ys : List D} {s : List SV} : mLenN 4 (s0 :: s1 :: s2 :: s3 :: .own p ys :: s) = .ok (.int ys.length) (s0 :: s1 :: s2 :: s3 :: .own p ys :: s) := id rfl
@[simp] theorem ap_PopAt4 {s0 s1 s2 s3 : SV} {p : Bool} {ys : List D} {s : List SV} : mPopAt 4 a (s0 :: s1 :: s2 :: s3 :: .own p ys :: s) = (a (s0 :: s1 :: s2 :: s3 :: .own p ys :: s)).bind fun v ρ => match ρ.getD 4 .un, v with
    | .own p xs, .int i => match seqIndex? i xs.length with
      | some k => if I63 i then match xs[k]? with
        | some d => .ok d (ρ.set 4 (.own p (xs.eraseIdx k)))
        | none => .stuck
        else .stuck
      | none => .stuck
    | _, _ => .stuck := id rfl
@[simp] theorem ap_VarO4 {s0 s1 s2 s3 : SV} {ys : List D} {s : List SV} : mVar 4 (s0 :: s1 :: s2 :: s3 :: .own false ys :: s) = .ok (.lst ys) (s0 :: s1 :: s2 :: s3 :: .val (.lst ys) :: s) := id rfl
@[simp] theorem ap_App5 {s0 s1 s2 s3 s4 : SV} {p : Bool} {ys : List D} {s : List SV} : mApp 5 a (s0 :: s1 :: s2 :: s3 :: s4 :: .own p ys :: s) = (a (s0 :: s1 :: s2 :: s3 :: s4 :: .own p ys :: s)).bind fun v ρ => match ρ.getD 5 .un with
    | .own p xs => if xs.length < sizeLine then .ok .non (ρ.set 5 (.own p (xs ++ [v]))) else .stuck
    | _ => .stuck := id rfl
@[simp] theorem ap_Len5 {s0 s1 s2 s3 s4 : SV} {p : Bool} {ys : List D} {s : List SV} : mLenN 5 (s0 :: s1 :: s2 :: s3 :: s4 :: .own p ys :: s) = .ok (.int ys.length) (s0 :: s1 :: s2 :: s3 :: s4 :: .own p ys :: s) := id rfl
@[simp] theorem ap_PopAt5 {s0 s1 s2 s3 s4 : SV} {p : Bool} {ys : List D} {s : List SV} : mPopAt 5 a (s0 :: s1 :: s2 :: s3 :: s4 :: .own p ys :: s) = (a (s0 :: s1 :: s2 :: s3 :: s4 :: .own p ys :: s)).bind fun v ρ => match ρ.getD 5 .un, v with
    | .own p xs, .int i => match seqIndex? i xs.length with
      | some k => if I63 i then match xs[k]? with
        | some d => .ok d (ρ.set 5 (.own p (xs.eraseIdx k)))
        | none => .stuck
        else .stuck
      | none => .stuck
    | _, _ => .stuck := id rfl
@[simp] theorem ap_VarO5 {s0 s1 s2 s3 s4 : SV} {ys : List D} {s : List SV} : mVar 5 (s0 :: s1 :: s2 :: s3 :: s4 :: .own false ys :: s) = .ok (.lst ys) (s0 :: s1 :: s2 :: s3 :: s4 :: .val (.lst ys) :: s) := id rfl
@[simp] theorem ap_App6 {s0 s1 s2 s3 s4 s5 : SV} {p : Bool} {ys : List D} {s : List SV} : mApp 6 a (s0 :: s1 :: s2 :: s3 :: s4 :: s5 :: .own p ys :: s) = (a (s0 :: s1 :: s2 :: s3 :: s4 :: s5 :: .own p ys :: s)).bind fun v ρ => match ρ.getD 6 .un with
    | .own p xs => if xs.length < sizeLine then .ok .non (ρ.set 6 (.own p (xs ++ [v]))) else .stuck
    | _ => .stuck := id rfl
@[simp] theorem ap_Len6 {s0 s1 s2 s3 s4 s5 : SV} {p : Bool} {ys : List D} {s : List SV} : mLenN 6 (s0 :: s1 :: s2 :: s3 :: s4 :: s5 :: .own p ys :: s) = .ok (.int ys.length) (s0 :: s1 :: s2 :: s3 :: s4 :: s5 :: .own p ys :: s) := id rfl
@[simp] theorem ap_PopAt6 {s0 s1 s2 s3 s4 s5 : SV} {p : Bool} {ys : List D} {s : List SV} : mPopAt 6 a (s0 :: s1 :: s2 :: s3 :: s4 :: s5 :: .own p ys :: s) = (a (s0 :: s1 :: s2 :: s3 :: s4 :: s5 :: .own p ys :: s)).bind fun v ρ => match ρ.getD 6 .un, v with
    | .own p xs, .int i => match seqIndex? i xs.length with
      | some k => if I63 i then match xs[k]? with
        | some d => .ok d (ρ.set 6 (.own p (xs.eraseIdx k)))
        | none => .stuck
        else .stuck
      | none => .stuck
    | _, _ => .stuck := id rfl
@[simp] theorem ap_VarO6 {s0 s1 s2 s3 s4 s5 : SV} {ys : List D} {s : List SV} : mVar 6 (s0 :: s1 :: s2 :: s3 :: s4 :: s5 :: .own false ys :: s) = .ok (.lst ys) (s0 :: s1 :: s2 :: s3 :: s4 :: s5 :: .val (.lst ys) :: s) := id rfl
@[simp] theorem ap_App7 {s0 s1 s2 s3 s4 s5 s6 : SV} {p : Bool} {ys : List D} {s : List SV} : mApp 7 a (s0 :: s1 :: s2 :: s3 :: s4 :: s5 :: s6 :: .own p ys :: s) = (a (s0 :: s1 :: s2 :: s3 :: s4 :: s5 :: s6 :: .own p ys :: s)).bind fun v ρ => match ρ.getD 7 .un with
    | .own p xs => if xs.length < sizeLine then .ok .non (ρ.set 7 (.own p (xs ++ [v]))) else .stuck
    | _ => .stuck := id rfl
@[simp] theorem ap_Len7 {s0 s1 s2 s3 s4 s5 s6 : SV} {p : Bool} {ys : List D} {s : List SV} : mLenN 7 (s0 :: s1 :: s2 :: s3 :: s4 :: s5 :: s6 :: .own p ys :: s) = .ok (.int ys.length) (s0 :: s1 :: s2 :: s3 :: s4 :: s5 :: s6 :: .own p ys :: s) := id rfl
@[simp] theorem ap_PopAt7 {s0 s1 s2 s3 s4 s5 s6 : SV} {p : Bool} {ys : List D} {s : List SV} : mPopAt 7 a (s0 :: s1 :: s2 :: s3 :: s4 :: s5 :: s6 :: .own p ys :: s) = (a (s0 :: s1 :: s2 :: s3 :: s4 :: s5 :: s6 :: .own p ys :: s)).bind fun v ρ => match ρ.getD 7 .un, v with
    | .own p xs, .int i => match seqIndex? i xs.length with
      | some k => if I63 i then match xs[k]? with
        | some d => .ok d (ρ.set 7 (.own p (xs.eraseIdx k)))
        | none => .stuck
        else .stuck
      | none => .stuck
    | _, _ => .stuck := id rfl
@[simp] theorem ap_VarO7 {s0 s1 s2 s3 s4 s5 s6 : SV} {ys : List D} {s : List SV} : mVar 7 (s0 :: s1 :: s2 :: s3 :: s4 :: s5 :: s6 :: .own false ys :: s) = .ok (.lst ys) (s0 :: s1 :: s2 :: s3 :: s4 :: s5 :: s6 :: .val (.lst ys) :: s) := id rfl
@[simp] theorem ap_App8 {s0 s1 s2 s3 s4 s5 s6 s7 : SV} {p : Bool} {ys : List D} {s : List SV} : mApp 8 a (s0 :: s1 :: s2 :: s3 :: s4 :: s5 :: s6 :: s7 :: .own p ys :: s) = (a (s0 :: s1 :: s2 :: s3 :: s4 :: s5 :: s6 :: s7 :: .own p ys :: s)).bind fun v ρ => match ρ.getD 8 .un with
    | .own p xs => if xs.length < sizeLine then .ok .non (ρ.set 8 (.own p (xs ++ [v]))) else .stuck
    | _ => .stuck := id rfl
@[simp] theorem ap_Len8 {s0 s1 s2 s3 s4 s5 s6 s7 : SV} {p : Bool} {ys : List D} {s : List SV} : mLenN 8 (s0 :: s1 :: s2 :: s3 :: s4 :: s5 :: s6 :: s7 :: .own p ys :: s) = .ok (.int ys.length) (s0 :: s1 :: s2 :: s3 :: s4 :: s5 :: s6 :: s7 :: .own p ys :: s) := id rfl
@[simp] theorem ap_PopAt8 {s0 s1 s2 s3 s4 s5 s6 s7 : SV} {p : Bool} {ys : List D} {s : List SV} : mPopAt 8 a (s0 :: s1 :: s2 :: s3 :: s4 :: s5 :: s6 :: s7 :: .own p ys :: s) = (a (s0 :: s1 :: s2 :: s3 :: s4 :: s5 :: s6 :: s7 :: .own p ys :: s)).bind fun v ρ => match ρ.getD 8 .un, v with
    | .own p xs, .int i => match seqIndex? i xs.length with
      | some k => if I63 i then match xs[k]? with
        | some d => .ok d (ρ.set 8 (.own p (xs.eraseIdx k)))
        | none => .stuck
        else .stuck
      | none => .stuck
    | _, _ => .stuck := id rfl
@[simp] theorem ap_VarO8 {s0 s1 s2 s3 s4 s5 s6 s7 : SV} {ys : List D} {s : List SV} : mVar 8 (s0 :: s1 :: s2 :: s3 :: s4 :: s5 :: s6 :: s7 :: .own false ys :: s) = .ok (.lst ys) (s0 :: s1 :: s2 :: s3 :: s4 :: s5 :: s6 :: s7 :: .val (.lst ys) :: s) := id rfl
@[simp] theorem ap_App9 {s0 s1 s2 s3 s4 s5 s6 s7 s8 : SV} {p : Bool} {ys : List D} {s : List SV} : mApp 9 a (s0 :: s1 :: s2 :: s3 :: s4 :: s5 :: s6 :: s7 :: s8 :: .own p ys :: s) = (a (s0 :: s1 :: s2 :: s3 :: s4 :: s5 :: s6 :: s7 :: s8 :: .own p ys :: s)).bind fun v ρ => match ρ.getD 9 .un with
    | .own p xs => if xs.length < sizeLine then .ok .non (ρ.set 9 (.own p (xs ++ [v]))) else .stuck
    | _ => .stuck := id rfl
@[simp] theorem ap_Len9 {s0 s1 s2 s3 s4 s5 s6 s7 s8 : SV} {p : Bool} {ys : List D} {s : List SV} : mLenN 9 (s0 :: s1 :: s2 :: s3 :: s4 :: s5 :: s6 :: s7 :: s8 :: .own p ys :: s) = .ok (.int ys.length) (s0 :: s1 :: s2 :: s3 :: s4 :: s5 :: s6 :: s7 :: s8 :: .own p ys :: s) := id rfl
@[simp] theorem ap_PopAt9 {s0 s1 s2 s3 s4 s5 s6 s7 s8 : SV} {p : Bool} {ys : List D} {s : List SV} : mPopAt 9 a (s0 :: s1 :: s2 :: s3 :: s4 :: s5 :: s6 :: s7 :: s8 :: .own p ys :: s) = (a (s0 :: s1 :: s2 :: s3 :: s4 :: s5 :: s6 :: s7 :: s8 :: .own p ys :: s)).bind fun v ρ => match ρ.getD 9 .un, v with
    | .own p xs, .int i => match seqIndex? i xs.length with
      | some k => if I63 i then match xs[k]? with
        | some d => .ok d (ρ.set 9 (.own p (xs.eraseIdx k)))
        | none => .stuck
        else .stuck
      | none => .stuck
    | _, _ => .stuck := id rfl
@[simp] theorem ap_VarO9 {s0 s1 s2 s3 s4 s5 s6 s7 s8 : SV} {ys : List D} {s : List SV} : mVar 9 (s0 :: s1 :: s2 :: s3 :: s4 :: s5 :: s6 :: s7 :: s8 :: .own false ys :: s) = .ok (.lst ys) (s0 :: s1 :: s2 :: s3 :: s4 :: s5 :: s6 :: s7 :: s8 :: .val (.lst ys) :: s) := id rfl
@[simp] theorem ap_App10 {s0 s1 s2 s3 s4 s5 s6 s7 s8 s9 : SV} {p : Bool} {ys : List D} {s : List SV} : mApp 10 a (s0 :: s1 :: s2 :: s3 :: s4 :: s5 :: s6 :: s7 :: s8 :: s9 :: .own p ys :: s) = (a (s0 :: s1 :: s2 :: s3 :: s4 :: s5 :: s6 :: s7 :: s8 :: s9 :: .own p ys :: s)).bind fun v ρ => match ρ.getD 10 .un with
    | .own p xs => if xs.length < sizeLine then .ok .non (ρ.set 10 (.own p (xs ++ [v]))) else .stuck
    | _ => .stuck := id rfl
@[simp] theorem ap_Len10 {s0 s1 s2 s3 s4 s5 s6 s7 s8 s9 : SV} {p : Bool} {ys : List D} {s : List SV} : mLenN 10 (s0 :: s1 :: s2 :: s3 :: s4 :: s5 :: s6 :: s7 :: s8 :: s9 :: .own p ys :: s) = .ok (.int ys.length) (s0 :: s1 :: s2 :: s3 :: s4 :: s5 :: s6 :: s7 :: s8 :: s9 :: .own p ys :: s) := id rfl
@[simp] theorem ap_PopAt10 {s0 s1 s2 s3 s4 s5 s6 s7 s8 s9 : SV} {p : Bool} {ys : List D} {s : List SV} : mPopAt 10 a (s0 :: s1 :: s2 :: s3 :: s4 :: s5 :: s6 :: s7 :: s8 :: s9 :: .own p ys :: s) = (a (s0 :: s1 :: s2 :: s3 :: s4 :: s5 :: s6 :: s7 :: s8 :: s9 :: .own p ys :: s)).bind fun v ρ => match ρ.getD 10 .un, v with
    | .own p xs, .int i => match seqIndex? i xs.length with
      | some k => if I63 i then match xs[k]? with
        | some d => .ok d (ρ.set 10 (.own p (xs.eraseIdx k)))
        | none => .stuck
        else .stuck
      | none => .stuck
    | _, _ => .stuck := id rfl
@[simp] theorem ap_VarO10 {s0 s1 s2 s3 s4 s5 s6 s7 s8 s9 : SV} {ys : List D} {s : List SV} : mVar 10 (s0 :: s1 :: s2 :: s3 :: s4 :: s5 :: s6 :: s7 :: s8 :: s9 :: .own false ys :: s) = .ok (.lst ys) (s0 :: s1 :: s2 :: s3 :: s4 :: s5 :: s6 :: s7 :: s8 :: s9 :: .val (.lst ys) :: s) := id rfl
@[simp] theorem ap_App11 {s0 s1 s2 s3 s4 s5 s6 s7 s8 s9 s10 : SV} {p : Bool} {ys : List D} {s : List SV} : mApp 11 a (s0 :: s1 :: s2 :: s3 :: s4 :: s5 :: s6 :: s7 :: s8 :: s9 :: s10 :: .own p ys :: s) = (a (s0 :: s1 :: s2 :: s3 :: s4 :: s5 :: s6 :: s7 :: s8 :: s9 :: s10 :: .own p ys :: s)).bind fun v ρ => match ρ.getD 11 .un with
    | .own p xs => if xs.length < sizeLine then .ok .non (ρ.set 11 (.own p (xs ++ [v]))) else .stuck
    | _ => .stuck := id rfl
@[simp] theorem ap_Len11 {s0 s1 s2 s3 s4 s5 s6 s7 s8 s9 s10 : SV} {p : Bool} {ys : List D} {s : List SV} : mLenN 11 (s0 :: s1 :: s2 :: s3 :: s4 :: s5 :: s6 :: s7 :: s8 :: s9 :: s10 :: .own p ys :: s) = .ok (.int ys.length) (s0 :: s1 :: s2 :: s3 :: s4 :: s5 :: s6 :: s7 :: s8 :: s9 :: s10 :: .own p ys :: s) := id rfl
@[simp] theorem ap_PopAt11 {s0 s1 s2 s3 s4 s5 s6 s7 s8 s9 s10 : SV} {p : Bool} {ys : List D} {s : List SV} : mPopAt 11 a (s0 :: s1 :: s2 :: s3 :: s4 :: s5 :: s6 :: s7 :: s8 :: s9 :: s10 :: .own p ys :: s) = (a (s0 :: s1 :: s2 :: s3 :: s4 :: s5 :: s6 :: s7 :: s8 :: s9 :: s10 :: .own p ys :: s)).bind fun v ρ => match ρ.getD 11 .un, v with
    | .own p xs, .int i => match seqIndex? i xs.length with
      | some k => if I63 i then match xs[k]? with
        | some d => .ok d (ρ.set 11 (.own p (xs.eraseIdx k)))
        | none => .stuck
        else .stuck
      | none => .stuck
    | _, _ => .stuck := id rfl
@[simp] theorem ap_VarO11 {s0 s1 s2 s3 s4 s5 s6 s7 s8 s9 s10 : SV} {ys : List D} {s : List SV} : mVar 11 (s0 :: s1 :: s2 :: s3 :: s4 :: s5 :: s6 :: s7 :: s8 :: s9 :: s10 :: .own false ys :: s) = .ok (.lst ys) (s0 :: s1 :: s2 :: s3 :: s4 :: s5 :: s6 :: s7 :: s8 :: s9 :: s10 :: .val (.lst ys) :: s) := id rfl
@[simp] theorem ap_App12 {s0 s1 s2 s3 s4 s5 s6 s7 s8 s9 s10 s11 : SV} {p : Bool} {ys : List D} {s : List SV} : mApp 12 a (s0 :: s1 :: s2 :: s3 :: s4 :: s5 :: s6 :: s7 :: s8 :: s9 :: s10 :: s11 :: .own p ys :: s) = (a (s0 :: s1 :: s2 :: s3 :: s4 :: s5 :: s6 :: s7 :: s8 :: s9 :: s10 :: s11 :: .own p ys :: s)).bind fun v ρ => match ρ.getD 12 .un with
    | .own p xs => if xs.length < sizeLine then .ok .non (ρ.set 12 (.own p (xs ++ [v]))) else .stuck
    | _ => .stuck := id rfl
@[simp] theorem ap_Len12 {s0 s1 s2 s3 s4 s5 s6 s7 s8 s9 s10 s11 : SV} {p : Bool} {ys : List D} {s : List SV} : mLenN 12 (s0 :: s1 :: s2 :: s3 :: s4 :: s5 :: s6 :: s7 :: s8 :: s9 :: s10 :: s11 :: .own p ys :: s) = .ok (.int ys.length) (s0 :: s1 :: s2 :: s3 :: s4 :: s5 :: s6 :: s7 :: s8 :: s9 :: s10 :: s11 :: .own p ys :: s) := id rfl
@[simp] theorem ap_PopAt12 {s0 s1 s2 s3 s4 s5 s6 s7 s8 s9 s10 s11 : SV} {p : Bool} {ys : List D} {s : List SV} : mPopAt 12 a (s0 :: s1 :: s2 :: s3 :: s4 :: s5 :: s6 :: s7 :: s8 :: s9 :: s10 :: s11 :: .own p ys :: s) = (a (s0 :: s1 :: s2 :: s3 :: s4 :: s5 :: s6 :: s7 :: s8 :: s9 :: s10 :: s11 :: .own p ys :: s)).bind fun v ρ => match ρ.getD 12 .un, v with
    | .own p xs, .int i => match seqIndex? i xs.length with
      | some k => if I63 i then match xs[k]? with
        | some d => .ok d (ρ.set 12 (.own p (xs.eraseIdx k)))
        | none => .stuck
        else .stuck
      | none => .stuck
    | _, _ => .stuck := id rfl
@[simp] theorem ap_VarO12 {s0 s1 s2 s3 s4 s5 s6 s7 s8 s9 s10 s11 : SV} {ys : List D} {s : List SV} : mVar 12 (s0 :: s1 :: s2 :: s3 :: s4 :: s5 :: s6 :: s7 :: s8 :: s9 :: s10 :: s11 :: .own false ys :: s) = .ok (.lst ys) (s0 :: s1 :: s2 :: s3 :: s4 :: s5 :: s6 :: s7 :: s8 :: s9 :: s10 :: s11 :: .val (.lst ys) :: s) := id rfl
@[simp] theorem ap_Var12 {s0 s1 s2 s3 s4 s5 s6 s7 s8 s9 s10 s11 : SV} {s : List SV} : mVar 12 (s0 :: s1 :: s2 :: s3 :: s4 :: s5 :: s6 :: s7 :: s8 :: s9 :: s10 :: s11 :: .val d :: s) = .ok d (s0 :: s1 :: s2 :: s3 :: s4 :: s5 :: s6 :: s7 :: s8 :: s9 :: s10 :: s11 :: .val d :: s) := id rfl
@[simp] theorem ap_Var13 {s0 s1 s2 s3 s4 s5 s6 s7 s8 s9 s10 s11 s12 : SV} {s : List SV} : mVar 13 (s0 :: s1 :: s2 :: s3 :: s4 :: s5 :: s6 :: s7 :: s8 :: s9 :: s10 :: s11 :: s12 :: .val d :: s) = .ok d (s0 :: s1 :: s2 :: s3 :: s4 :: s5 :: s6 :: s7 :: s8 :: s9 :: s10 :: s11 :: s12 :: .val d :: s) := id rfl
@[simp] theorem ap_Var14 {s0 s1 s2 s3 s4 s5 s6 s7 s8 s9 s10 s11 s12 s13 : SV} {s : List SV} : mVar 14 (s0 :: s1 :: s2 :: s3 :: s4 :: s5 :: s6 :: s7 :: s8 :: s9 :: s10 :: s11 :: s12 :: s13 :: .val d :: s) = .ok d (s0 :: s1 :: s2 :: s3 :: s4 :: s5 :: s6 :: s7 :: s8 :: s9 :: s10 :: s11 :: s12 :: s13 :: .val d :: s) := id rfl
@[simp] theorem ap_Var15 {s0 s1 s2 s3 s4 s5 s6 s7 s8 s9 s10 s11 s12 s13 s14 : SV} {s : List SV} : mVar 15 (s0 :: s1 :: s2 :: s3 :: s4 :: s5 :: s6 :: s7 :: s8 :: s9 :: s10 :: s11 :: s12 :: s13 :: s14 :: .val d :: s) = .ok d (s0 :: s1 :: s2 :: s3 :: s4 :: s5 :: s6 :: s7 :: s8 :: s9 :: s10 :: s11 :: s12 :: s13 :: s14 :: .val d :: s) := id rfl
@[simp] theorem ap_Var16 {s0 s1 s2 s3 s4 s5 s6 s7 s8 s9 s10 s11 s12 s13 s14 s15 : SV} {s : List SV} : mVar 16 (s0 :: s1 :: s2 :: s3 :: s4 :: s5 :: s6 :: s7 :: s8 :: s9 :: s10 :: s11 :: s12 :: s13 :: s14 :: s15 :: .val d :: s) = .ok d (s0 :: s1 :: s2 :: s3 :: s4 :: s5 :: s6 :: s7 :: s8 :: s9 :: s10 :: s11 :: s12 :: s13 :: s14 :: s15 :: .val d :: s) := id rfl
@[simp] theorem ap_Var17 {s0 s1 s2 s3 s4 s5 s6 s7 s8 s9 s10 s11 s12 s13 s14 s15 s16 : SV} {s : List SV} : mVar 17 (s0 :: s1 :: s2 :: s3 :: s4 :: s5 :: s6 :: s7 :: s8 :: s9 :: s10 :: s11 :: s12 :: s13 :: s14 :: s15 :: s16 :: .val d :: s) = .ok d (s0 :: s1 :: s2 :: s3 :: s4 :: s5 :: s6 :: s7 :: s8 :: s9 :: s10 :: s11 :: s12 :: s13 :: s14 :: s15 :: s16 :: .val d :: s) := id rfl
@[simp] theorem ap_Var18 {s0 s1 s2 s3 s4 s5 s6 s7 s8 s9 s10 s11 s12 s13 s14 s15 s16 s17 : SV} {s : List SV} : mVar 18 (s0 :: s1 :: s2 :: s3 :: s4 :: s5 :: s6 :: s7 :: s8 :: s9 :: s10 :: s11 :: s12 :: s13 :: s14 :: s15 :: s16 :: s17 :: .val d :: s) = .ok d (s0 :: s1 :: s2 :: s3 :: s4 :: s5 :: s6 :: s7 :: s8 :: s9 :: s10 :: s11 :: s12 :: s13 :: s14 :: s15 :: s16 :: s17 :: .val d :: s) := id rfl
@[simp] theorem ap_Var19 {s0 s1 s2 s3 s4 s5 s6 s7 s8 s9 s10 s11 s12 s13 s14 s15 s16 s17 s18 : SV} {s : List SV} : mVar 19 (s0 :: s1 :: s2 :: s3 :: s4 :: s5 :: s6 :: s7 :: s8 :: s9 :: s10 :: s11 :: s12 :: s13 :: s14 :: s15 :: s16 :: s17 :: s18 :: .val d :: s) = .ok d (s0 :: s1 :: s2 :: s3 :: s4 :: s5 :: s6 :: s7 :: s8 :: s9 :: s10 :: s11 :: s12 :: s13 :: s14 :: s15 :: s16 :: s17 :: s18 :: .val d :: s) := id rfl
open Classical in
theorem ap_Peek {f : M D} {xs : List D} {ρ' : Ro} (h : ρ.getD j .un = .own false xs) (e : f (ρ.set j (.val (.lst xs))) = .ok d ρ') (h1 : noL d = true) (h2 : ρ'.getD j .un = .val (.lst xs)) (h3 : pkR j 0 ρ ρ') : mPeek j f ρ = .ok d (ρ'.set j (.own false xs)) := by
  unfold mPeek
  rw [h]
  show (match f (ρ.set j (SV.val (.lst xs))) with
    | R.ok d ρ' => if noL d = true ∧ ρ'.getD j .un = SV.val (.lst xs) ∧ pkR j 0 ρ ρ' then R.ok d (ρ'.set j (.own false xs)) else R.stuck
    | _ => R.stuck) = _
  rw [e]
  exact if_pos ⟨h1, h2, h3⟩
@[simp] theorem ap_Par {fs : M (List D)} : xPar i j fs ρ = (fs ρ).bind fun ds ρ => match ds with
  | [d, e] => (putT (.sl i) d ρ).bind fun _ ρ => (putT (.sl j) e ρ).bind fun _ ρ => .ok .nx ρ
  | _ => .stuck := id rfl
end
section
variable {i j : Int} {x y d e : D} {xs ys : List D} {n m : Nat}
@[simp] theorem op_addI : addD (.int i) (.int j) = .ok (.int (i + j)) := id rfl
@[simp] theorem op_subI : subD (.int i) (.int j) = .ok (.int (i - j)) := id rfl
theorem op_mulI (h : mulOk i j) : mulD (.int i) (.int j) = .ok (.int (i * j)) := if_pos h
theorem op_divI (h : divOk i j) : divD (.int i) (.int j) = .ok (.int (i.fdiv j)) := if_pos h
theorem op_modI (h : j ≠ 0) : modD (.int i) (.int j) = .ok (.int (i.fmod j)) := if_pos h
@[simp] theorem op_negI : negD (.int i) = .ok (.int (-i)) := id rfl
@[simp] theorem op_ltI : ltD (.int i) (.int j) = .ok (.bl (decide (i < j))) := id rfl
@[simp] theorem op_leI : leD (.int i) (.int j) = .ok (.bl (decide (i ≤ j))) := id rfl
@[simp] theorem op_gtI : gtD (.int i) (.int j) = .ok (.bl (decide (j < i))) := id rfl
@[simp] theorem op_geI : geD (.int i) (.int j) = .ok (.bl (decide (j ≤ i))) := id rfl
@[simp] theorem op_notB {b : Bool} : notD (.bl b) = .ok (.bl (!b)) := id rfl
@[simp] theorem op_eqII : eqD (.int i) (.int j) = .ok (.bl (decide (i = j))) := by
  unfold eqD eqv; simp [okD, py, PyData.eqv]; rfl
@[simp] theorem op_neII : neD (.int i) (.int j) = .ok (.bl (!decide (i = j))) := by
  unfold neD eqv; simp [okD, py, PyData.eqv]; rfl
theorem eqv_self (h : okD n x = true) : eqv x x = true := PySem.SeqAt.eqv_refl_plain _ (okD_py n x h).1
theorem op_neS (h : okD 12 x = true) : neD x x = .ok (.bl false) := by
  unfold neD; rw [if_pos ⟨h, h⟩, eqv_self h]; rfl
@[simp] theorem okD_int : okD n (.int i) = true := by unfold okD; rfl
@[simp] theorem okD_str {z : Str} : okD n (.str z) = true := by unfold okD; rfl
@[simp] theorem okD_bl {b : Bool} : okD n (.bl b) = true := by unfold okD; rfl
@[simp] theorem okD_non : okD n .non = true := by unfold okD; rfl
@[simp] theorem okDs_nil : okDs n [] = true := by unfold okDs; rfl
@[simp] theorem okDs_cons : okDs n (x :: xs) = (okD n x && okDs n xs) := by rw [okDs]
@[simp] theorem okD_tup : okD (n + 1) (.tup xs) = okDs n xs := by rw [okD]
@[simp] theorem okD_lst : okD (n + 1) (.lst xs) = okDs n xs := by rw [okD]
@[simp] theorem okDs_ints : ∀ {ns : List Int}, okDs n (ns.map .int) = true
  | [] => by simp
  | a :: r => by simp [okDs_ints (ns := r)]
theorem okDs_all : ∀ {l : List D}, (∀ z ∈ l, okD n z = true) → okDs n l = true
  | [], _ => by simp
  | a :: r, h => by simp [h a (List.mem_cons_self ..), okDs_all (l := r) fun z hz => h z (List.mem_cons_of_mem _ hz)]
@[simp] theorem op_lenT : lenD [.tup xs] = .ok (.int xs.length) := id rfl
@[simp] theorem op_lenL : lenD [.lst xs] = .ok (.int xs.length) := id rfl
@[simp] theorem op_lenF : lenD [.frz xs] = .ok (.int xs.length) := id rfl
@[simp] theorem op_sum {ns : List Int} : sumD [.lst (ns.map .int)] = .ok (.int ns.sum) := by unfold sumD; simp only [intsD_map]
@[simp] theorem op_all {bs : List Bool} : allD [.lst (bs.map .bl)] = .ok (.bl (bs.all id)) := by unfold allD; simp only [blsD_map]
@[simp] theorem op_any {bs : List Bool} : anyD [.lst (bs.map .bl)] = .ok (.bl (bs.any id)) := by unfold anyD; simp only [blsD_map]
@[simp] theorem op_tupleL : tupleD [.lst xs] = .ok (.tup xs) := id rfl
@[simp] theorem op_tupleT : tupleD [.tup xs] = .ok (.tup xs) := id rfl
@[simp] theorem op_listL : listD [.lst xs] = .ok (.lst xs) := id rfl
@[simp] theorem op_listT : listD [.tup xs] = .ok (.lst xs) := id rfl
@[simp] theorem op_intI : intD [.int i] = .ok (.int i) := id rfl
@[simp] theorem op_intB {b : Bool} : intD [.bl b] = .ok (.int (if b then 1 else 0)) := id rfl
@[simp] theorem op_absI : absD [.int i] = .ok (.int (if i < 0 then -i else i)) := id rfl
@[simp] theorem op_max : max2D [.int i, .int j] = .ok (.int (if j > i then j else i)) := id rfl
@[simp] theorem op_min : min2D [.int i, .int j] = .ok (.int (if j < i then j else i)) := id rfl
@[simp] theorem op_isiII : isiD [.int i, .opq (.ty "int")] = .ok (.bl true) := id rfl
@[simp] theorem op_isiIB : isiD [.int i, .opq (.ty "bool")] = .ok (.bl false) := id rfl
@[simp] theorem op_isiTT : isiD [.tup xs, .opq (.ty "tuple")] = .ok (.bl true) := id rfl
@[simp] theorem op_isiSint {z : Str} : isiD [.str z, .opq (.ty "int")] = .ok (.bl false) := id rfl
@[simp] theorem op_isiSbool {z : Str} : isiD [.str z, .opq (.ty "bool")] = .ok (.bl false) := id rfl
@[simp] theorem op_isiSS {z : Str} : isiD [.str z, .opq (.ty "str")] = .ok (.bl true) := id rfl
@[simp] theorem op_isiStuple {z : Str} : isiD [.str z, .opq (.ty "tuple")] = .ok (.bl false) := id rfl
@[simp] theorem op_isiSlist {z : Str} : isiD [.str z, .opq (.ty "list")] = .ok (.bl false) := id rfl
@[simp] theorem op_isiSdict {z : Str} : isiD [.str z, .opq (.ty "dict")] = .ok (.bl false) := id rfl
@[simp] theorem op_isiTint : isiD [.tup xs, .opq (.ty "int")] = .ok (.bl false) := id rfl
@[simp] theorem op_isiTbool : isiD [.tup xs, .opq (.ty "bool")] = .ok (.bl false) := id rfl
@[simp] theorem op_isiTstr : isiD [.tup xs, .opq (.ty "str")] = .ok (.bl false) := id rfl
@[simp] theorem op_isiTlist : isiD [.tup xs, .opq (.ty "list")] = .ok (.bl false) := id rfl
@[simp] theorem op_isiTdict : isiD [.tup xs, .opq (.ty "dict")] = .ok (.bl false) := id rfl
@[simp] theorem op_isiLint : isiD [.lst xs, .opq (.ty "int")] = .ok (.bl false) := id rfl
@[simp] theorem op_isiLbool : isiD [.lst xs, .opq (.ty "bool")] = .ok (.bl false) := id rfl
@[simp] theorem op_isiLstr : isiD [.lst xs, .opq (.ty "str")] = .ok (.bl false) := id rfl
@[simp] theorem op_isiLtuple : isiD [.lst xs, .opq (.ty "tuple")] = .ok (.bl false) := id rfl
@[simp] theorem op_isiLlist : isiD [.lst xs, .opq (.ty "list")] = .ok (.bl true) := id rfl
@[simp] theorem op_isiLdict : isiD [.lst xs, .opq (.ty "dict")] = .ok (.bl false) := id rfl
@[simp] theorem op_isiIstr : isiD [.int i, .opq (.ty "str")] = .ok (.bl false) := id rfl
@[simp] theorem op_isiItuple : isiD [.int i, .opq (.ty "tuple")] = .ok (.bl false) := id rfl
@[simp] theorem op_isiIlist : isiD [.int i, .opq (.ty "list")] = .ok (.bl false) := id rfl
@[simp] theorem op_isiIdict : isiD [.int i, .opq (.ty "dict")] = .ok (.bl false) := id rfl
@[simp] theorem op_isiBint {b : Bool} : isiD [.bl b, .opq (.ty "int")] = .ok (.bl true) := id rfl
@[simp] theorem op_isiBbool {b : Bool} : isiD [.bl b, .opq (.ty "bool")] = .ok (.bl true) := id rfl
@[simp] theorem op_isiBstr {b : Bool} : isiD [.bl b, .opq (.ty "str")] = .ok (.bl false) := id rfl
@[simp] theorem op_isiBtuple {b : Bool} : isiD [.bl b, .opq (.ty "tuple")] = .ok (.bl false) := id rfl
@[simp] theorem op_isiBlist {b : Bool} : isiD [.bl b, .opq (.ty "list")] = .ok (.bl false) := id rfl
@[simp] theorem op_isiBdict {b : Bool} : isiD [.bl b, .opq (.ty "dict")] = .ok (.bl false) := id rfl
@[simp] theorem op_isiNint : isiD [.non, .opq (.ty "int")] = .ok (.bl false) := id rfl
@[simp] theorem op_isiNbool : isiD [.non, .opq (.ty "bool")] = .ok (.bl false) := id rfl
@[simp] theorem op_isiNstr : isiD [.non, .opq (.ty "str")] = .ok (.bl false) := id rfl
@[simp] theorem op_isiNtuple : isiD [.non, .opq (.ty "tuple")] = .ok (.bl false) := id rfl
@[simp] theorem op_isiNlist : isiD [.non, .opq (.ty "list")] = .ok (.bl false) := id rfl
@[simp] theorem op_isiNdict : isiD [.non, .opq (.ty "dict")] = .ok (.bl false) := id rfl
@[simp] theorem op_isiEint {ks : List Key} {ds : List D} : isiD [.dct ks ds, .opq (.ty "int")] = .ok (.bl false) := id rfl
@[simp] theorem op_isiEbool {ks : List Key} {ds : List D} : isiD [.dct ks ds, .opq (.ty "bool")] = .ok (.bl false) := id rfl
@[simp] theorem op_isiEstr {ks : List Key} {ds : List D} : isiD [.dct ks ds, .opq (.ty "str")] = .ok (.bl false) := id rfl
@[simp] theorem op_isiEtuple {ks : List Key} {ds : List D} : isiD [.dct ks ds, .opq (.ty "tuple")] = .ok (.bl false) := id rfl
@[simp] theorem op_isiElist {ks : List Key} {ds : List D} : isiD [.dct ks ds, .opq (.ty "list")] = .ok (.bl false) := id rfl
@[simp] theorem op_isiEdict {ks : List Key} {ds : List D} : isiD [.dct ks ds, .opq (.ty "dict")] = .ok (.bl true) := id rfl
@[simp] theorem op_isnt1 : isntD .non .non = .ok (.bl false) := id rfl
@[simp] theorem op_isnt2 : isntD (.int i) .non = .ok (.bl true) := id rfl
@[simp] theorem op_is1 : isD .non .non = .ok (.bl true) := id rfl
@[simp] theorem op_is2 : isD (.int i) .non = .ok (.bl false) := id rfl
@[simp] theorem op_is3 : isD (.tup xs) .non = .ok (.bl false) := id rfl
@[simp] theorem op_isnt3 : isntD (.tup xs) .non = .ok (.bl true) := id rfl
theorem atI_nat {α : Type} {l : List α} {k : Nat} : atI l (k : Int) = l[k]? := by
  unfold atI ixN
  rw [if_pos (by omega : 0 ≤ (k : Int))]
  by_cases h : k < l.length
  · rw [if_pos (by omega)]; simp
  · rw [if_neg (by omega)]; simp; omega
theorem ixD_tup {k : Nat} (h : xs[k]? = some d) : ixD (.tup xs) (.int k) = .ok d := by
  unfold ixD; simp only [atI_nat, h]
theorem ixD_lst {k : Nat} (h : xs[k]? = some d) : ixD (.lst xs) (.int k) = .ok d := by
  unfold ixD; simp only [atI_nat, h]
theorem ixD_frz {k : Nat} (h : xs[k]? = some d) : ixD (.frz xs) (.int k) = .ok d := by
  unfold ixD; simp only [atI_nat, h]
@[simp] theorem ix_l0 : ixD (.lst (x :: xs)) (.int 0) = .ok x := ixD_lst (k := 0) rfl
@[simp] theorem ix_l1 : ixD (.lst (x :: y :: xs)) (.int 1) = .ok y := ixD_lst (k := 1) rfl
@[simp] theorem ix_l2 : ixD (.lst (x :: y :: d :: xs)) (.int 2) = .ok d := ixD_lst (k := 2) rfl
@[simp] theorem ix_t0 : ixD (.tup (x :: xs)) (.int 0) = .ok x := ixD_tup (k := 0) rfl
@[simp] theorem ix_t1 : ixD (.tup (x :: y :: xs)) (.int 1) = .ok y := ixD_tup (k := 1) rfl
@[simp] theorem ix_t2 : ixD (.tup (x :: y :: d :: xs)) (.int 2) = .ok d := ixD_tup (k := 2) rfl
theorem tupD_of (h : xs.length ≤ sizeLine) : tupD xs = .ok (.tup xs) := if_pos h
theorem lstD_of (h : xs.length ≤ sizeLine) : lstD xs = .ok (.lst xs) := if_pos h
@[simp] theorem walk_lst : walkD (.lst xs) = .ok xs := id rfl
@[simp] theorem walk_frz : walkD (.frz xs) = .ok xs := id rfl
@[simp] theorem walk_tup : walkD (.tup xs) = .ok xs := id rfl
@[simp] theorem zip_tt : zipD [.tup xs, .tup ys] = .ok (xs.zipWith pairD ys) := id rfl
@[simp] theorem zip_ll : zipD [.lst xs, .lst ys] = .ok (xs.zipWith pairD ys) := id rfl
@[simp] theorem pair_int {i : Int} {y : D} : pairD (.int i) y = .tup [.int i, y] := rfl
@[simp] theorem pair_tup {zs : List D} {y : D} : pairD (.tup zs) y = .tup [.tup zs, y] := rfl
@[simp] theorem pair_lst {zs : List D} {y : D} : pairD (.lst zs) y = .tup [.lst zs, y] := rfl
@[simp] theorem pair_int' {i : Int} {x : D} : pairD x (.int i) = .tup [x, .int i] := by cases x <;> rfl
@[simp] theorem pair_tup' {zs : List D} {x : D} : pairD x (.tup zs) = .tup [x, .tup zs] := by cases x <;> rfl
@[simp] theorem pair_lst' {zs : List D} {x : D} : pairD x (.lst zs) = .tup [x, .lst zs] := by cases x <;> rfl
@[simp] theorem pair_bl' {b : Bool} {x : D} : pairD x (.bl b) = .tup [x, .bl b] := by cases x <;> rfl
/-- a zip whose first items are no texts -/
theorem zip_fst {xs : List D} (h : ∀ x ∈ xs, isStD x = false) : ∀ ys : List D, xs.zipWith pairD ys = xs.zipWith (fun x y => .tup [x, y]) ys := by
  induction xs with
  | nil => intro ys; rfl
  | cons x xs ih =>
    intro ys
    cases ys with
    | nil => rfl
    | cons y ys =>
      rw [List.zipWith_cons_cons, List.zipWith_cons_cons, ih (fun z hz => h z (List.mem_cons_of_mem _ hz)), pairD_of fun a b e _ => by
        have := h x (List.mem_cons_self ..)
        rw [e] at this; cases this]
@[simp] theorem zip_intsL {X : List Int} {ys : List D} : (X.map D.int).zipWith pairD ys = (X.map D.int).zipWith (fun x y => .tup [x, y]) ys := zip_fst (fun x hx => by
  obtain ⟨i, _, rfl⟩ := List.mem_map.mp hx
  rfl) ys
theorem range1_of (h : 0 ≤ i) (h' : i ≤ 1000000000) : range1D [.int i] = .ok ((List.range i.toNat).map fun (k : Nat) => .int k) := by
  have e : range1D [.int i] = if I62 i then .ok (rangeD 0 i) else .stuck := id rfl
  rw [e, if_pos ⟨by omega, by omega⟩]
  unfold rangeD
  simp
end
section
variable {ρ : Ro} {t : Tg} {el : M D} {i j : Nat}
theorem all_const {β : Type} {l : List β} {b : Bool} (h : l ≠ []) : (l.all fun _ => b) = b := by
  cases l with
  | nil => exact absurd rfl h
  | cons x l => cases b <;> simp
@[simp] theorem plainR_nil : plainR ρ [] = true := id rfl
@[simp] theorem plainR_cons {v : Nat} {vs : List Nat} : plainR ρ (v :: vs) = (!(ρ.getD v .un).isFar && plainR ρ vs) := id rfl
@[simp] theorem isFar_un : SV.un.isFar = false := id rfl
@[simp] theorem isFar_val : (SV.val d).isFar = false := id rfl
@[simp] theorem isFar_own {p : Bool} {xs : List D} : (SV.own p xs).isFar = true := id rfl
@[simp] theorem isFar_ins {p : Bool} {c : Str} {ns : List Str} {ds : List D} : (SV.ins p c ns ds).isFar = true := id rfl
@[simp] theorem isIo_pin : SV.pin.isIo = true := id rfl
@[simp] theorem isFar_pin : SV.pin.isFar = true := id rfl
@[simp] theorem isOwn_pin : SV.pin.isOwn = false := id rfl
@[simp] theorem freeR_nil : freeR ρ [] = true := id rfl
@[simp] theorem freeR_cons {v : Nat} {vs : List Nat} : freeR ρ (v :: vs) = (!(ρ.getD v .un).isIo && freeR ρ vs) := id rfl
@[simp] theorem wipeR_nil : wipeR ρ [] = ρ := id rfl
@[simp] theorem wipeR_cons {v : Nat} {vs : List Nat} : wipeR ρ (v :: vs) = (wipeR ρ vs).set v .un := id rfl
@[simp] theorem backR_nil {ρ0 : Ro} : backR ρ0 ρ [] = ρ := id rfl
@[simp] theorem backR_cons {ρ0 : Ro} {v : Nat} {vs : List Nat} : backR ρ0 ρ (v :: vs) = (backR ρ0 ρ vs).set v (ρ0.getD v .un) := id rfl
end
section
variable {t : Tg} {el : M D} {vs : List Nat}
/-- one turn of a comprehension -/
def turnM (vs : List Nat) (t : Tg) (el : M D) (ρ : Ro) (d : D) : R D := (putT t d (wipeR ρ vs)).bind fun _ ρ1 => (el ρ1).bind fun y ρ3 => bif freeR ρ3 vs then .ok y (backR ρ ρ3 vs) else .stuck
theorem turnM_ok {ρ ρ' : Ro} {d y : D} (h : turnM vs t el ρ d = .ok y ρ') : ∃ ρ1 ρ3, putT t d (wipeR ρ vs) = .ok () ρ1 ∧ el ρ1 = .ok y ρ3 ∧ freeR ρ3 vs = true ∧ backR ρ ρ3 vs = ρ' := by
  unfold turnM at h
  cases e : putT t d (wipeR ρ vs) with
  | ok u ρ1 =>
    rw [e, R.bind_ok] at h
    cases e2 : el ρ1 with
    | ok z ρ3 =>
      rw [e2, R.bind_ok] at h
      cases e3 : freeR ρ3 vs with
      | true => rw [e3] at h; cases h; exact ⟨_, _, rfl, e2, e3, rfl⟩
      | false => rw [e3] at h; cases h
    | exc x ρ3 => rw [e2] at h; cases h
    | stuck => rw [e2] at h; cases h
  | exc x ρ3 => rw [e] at h; cases h
  | stuck => rw [e] at h; cases h
theorem lcM_map {β : Type} {ρ : Ro} (g : β → D) (l : List β) (F : β → D) (hp : plainR ρ vs = true) (hl : l.length ≤ sizeLine) (h : ∀ x ∈ l, turnM vs t el ρ (g x) = .ok (F x) ρ) :
    lcM vs t tYesM el (l.map g) [] ρ = .ok (l.map F) ρ := by
  have main : ∀ (l : List β) (acc : List D), l.length + acc.length ≤ sizeLine → (∀ x ∈ l, turnM vs t el ρ (g x) = .ok (F x) ρ) → lcM vs t tYesM el (l.map g) acc ρ = .ok (acc ++ l.map F) ρ := by
    intro l
    induction l with
    | nil => intro acc _ _; simp [lcM]
    | cons d ds ih =>
      intro acc hl h
      obtain ⟨ρ1, ρ3, e1, e2, e3, e4⟩ := turnM_ok (h d (List.mem_cons_self ..))
      rw [List.length_cons] at hl
      rw [List.map_cons, lcM, if_pos hp, e1, R.bind_ok, ap_tYes, R.bind_ok, if_pos rfl, e2, R.bind_ok, if_pos ⟨by omega, e3⟩, e4]
      rw [ih (acc ++ [F d]) (by rw [List.length_append, List.length_singleton]; omega) fun z hz => h z (List.mem_cons_of_mem _ hz)]
      simp
  have := main l [] (by simpa using hl) h
  simpa using this
/-- turns that change the slots: I n holds behind n of them -/
theorem lcM_run2 {I : Nat → Ro → Prop} {P : D → Prop} : ∀ (ds : List D) (acc : List D) (n : Nat) (ρ : Ro), ds.length + acc.length ≤ sizeLine → I n ρ →
    (∀ d ∈ ds, ∀ k ρ, n ≤ k → k < n + ds.length → I k ρ → plainR ρ vs = true ∧ ∃ y ρ', turnM vs t el ρ d = .ok y ρ' ∧ I (k + 1) ρ' ∧ P y) →
    ∃ ys ρ', lcM vs t tYesM el ds acc ρ = .ok (acc ++ ys) ρ' ∧ I (n + ds.length) ρ' ∧ ys.length = ds.length ∧ ∀ y ∈ ys, P y
  | [], acc, n, ρ, _, h0, _ => ⟨[], ρ, by simp [lcM], h0, rfl, by simp⟩
  | d :: ds, acc, n, ρ, hl, h0, h => by
    rw [List.length_cons] at hl h
    obtain ⟨hp, y, ρ', e, h1, py⟩ := h d (List.mem_cons_self ..) n ρ (Nat.le_refl _) (by omega) h0
    obtain ⟨ρ1, ρ3, e1, e2, e3, e4⟩ := turnM_ok e
    obtain ⟨ys, ρ'', f, i, l, p⟩ := lcM_run2 ds (acc ++ [y]) (n + 1) ρ' (by rw [List.length_append, List.length_singleton]; omega) h1 fun z hz k ρ a b i => h z (List.mem_cons_of_mem _ hz) k ρ (by omega) (by omega) i
    refine ⟨y :: ys, ρ'', ?_, by rw [List.length_cons, show n + (ds.length + 1) = n + 1 + ds.length by omega]; exact i, by simp [l], fun z hz => ?_⟩
    · rw [lcM, if_pos hp, e1, R.bind_ok, ap_tYes, R.bind_ok, if_pos rfl, e2, R.bind_ok, if_pos ⟨by omega, e3⟩, e4, f]
      simp
    · rcases List.mem_cons.mp hz with e | e
      · rw [e]; exact py
      · exact p z e
theorem ints_of {p : Int → Prop} : ∀ {ys : List D}, (∀ y ∈ ys, ∃ k, y = .int k ∧ p k) → ∃ ks : List Int, ys = ks.map .int ∧ ∀ k ∈ ks, p k
  | [], _ => ⟨[], rfl, by simp⟩
  | y :: ys, h => by
    obtain ⟨k, e, q⟩ := h y (List.mem_cons_self ..)
    obtain ⟨ks, e2, q2⟩ := ints_of fun z hz => h z (List.mem_cons_of_mem _ hz)
    exact ⟨k :: ks, by rw [e, e2]; rfl, fun z hz => by
      rcases List.mem_cons.mp hz with e | e
      · rw [e]; exact q
      · exact q2 z e⟩
/-- a for's turn -/
def turnF (t : Tg) (body : M Fl) (ρ : Ro) (d : D) : R Fl := (putT t d ρ).bind fun _ ρ => body ρ
theorem forM_inv {body : M Fl} {I : Nat → Ro → Prop} : ∀ (ds : List D) (n : Nat) (ρ : Ro), I n ρ →
    (∀ d ∈ ds, ∀ k ρ, n ≤ k → k < n + ds.length → I k ρ → ∃ ρ', turnF t body ρ d = .ok .nx ρ' ∧ I (k + 1) ρ') →
    ∃ ρ', forM t body ds ρ = .ok .nx ρ' ∧ I (n + ds.length) ρ'
  | [], n, ρ, h0, _ => ⟨ρ, rfl, h0⟩
  | d :: ds, n, ρ, h0, h => by
    rw [List.length_cons] at h
    obtain ⟨ρ', e, i⟩ := h d (List.mem_cons_self ..) n ρ (Nat.le_refl _) (by omega) h0
    obtain ⟨ρ'', f, j⟩ := forM_inv ds (n + 1) ρ' i fun z hz k ρ a b i => h z (List.mem_cons_of_mem _ hz) k ρ (by omega) (by omega) i
    refine ⟨ρ'', ?_, by rw [List.length_cons, show n + (ds.length + 1) = n + 1 + ds.length by omega]; exact j⟩
    unfold turnF at e
    cases e1 : putT t d ρ with
    | ok u ρ1 =>
      rw [e1, R.bind_ok] at e
      show ((putT t d ρ).bind fun _ ρ => (body ρ).bind fun f ρ => _) = _
      rw [e1, R.bind_ok, e, R.bind_ok]
      exact f
    | exc x ρ3 => rw [e1] at e; cases e
    | stuck => rw [e1] at e; cases e
@[simp] theorem op_sumF {β : Type} {l : List β} {f : β → Int} : sumD [.lst (l.map fun x => .int (f x))] = .ok (.int (l.map f).sum) := by
  have := op_sum (ns := l.map f)
  rw [List.map_map] at this
  exact this
@[simp] theorem op_sumZ {β γ : Type} {l : List β} {l' : List γ} {f : β → γ → Int} : sumD [.lst (l.zipWith (fun x y => .int (f x y)) l')] = .ok (.int (l.zipWith f l').sum) := by
  have := op_sum (ns := l.zipWith f l')
  rw [List.map_zipWith] at this
  exact this
@[simp] theorem op_allF {β : Type} {l : List β} {f : β → Bool} : allD [.lst (l.map fun x => .bl (f x))] = .ok (.bl (l.all f)) := by
  have := op_all (bs := l.map f)
  rw [List.map_map] at this
  rw [show (List.map (fun x => D.bl (f x)) l) = List.map (D.bl ∘ f) l from rfl, this]
  simp
@[simp] theorem op_anyF {β : Type} {l : List β} {f : β → Bool} : anyD [.lst (l.map fun x => .bl (f x))] = .ok (.bl (l.any f)) := by
  have := op_any (bs := l.map f)
  rw [List.map_map] at this
  rw [show (List.map (fun x => D.bl (f x)) l) = List.map (D.bl ∘ f) l from rfl, this]
  simp
@[simp] theorem okDs_intF {β : Type} {n : Nat} {f : β → Int} {l : List β} : okDs n (l.map fun x => .int (f x)) = true := okDs_all fun z hz => by
  obtain ⟨x, _, e⟩ := List.mem_map.mp hz
  rw [← e]; simp
@[simp] theorem okDs_intZ {β γ : Type} {n : Nat} {f : β → γ → Int} {l : List β} {l' : List γ} : okDs n (l.zipWith (fun x y => .int (f x y)) l') = true := by
  have := okDs_ints (n := n) (ns := l.zipWith f l')
  rw [List.map_zipWith] at this
  exact this
end
section
variable {t : Tg} {c : M Bool} {el : M D} {vs : List Nat}
/-- one turn with a test -/
def turnO (vs : List Nat) (t : Tg) (c : M Bool) (el : M D) (ρ : Ro) (d : D) : R (Option D) := (putT t d (wipeR ρ vs)).bind fun _ ρ1 => (c ρ1).bind fun k ρ2 =>
  bif k then (el ρ2).bind fun y ρ3 => bif freeR ρ3 vs then .ok (some y) (backR ρ ρ3 vs) else .stuck
  else bif freeR ρ2 vs then .ok none (backR ρ ρ2 vs) else .stuck
theorem lcM_step {ρ ρ' : Ro} {d : D} {o : Option D} {ds acc : List D} (hp : plainR ρ vs = true) (hl : acc.length < sizeLine) (h : turnO vs t c el ρ d = .ok o ρ') :
    lcM vs t c el (d :: ds) acc ρ = lcM vs t c el ds (acc ++ o.toList) ρ' := by
  unfold turnO at h
  rw [lcM, if_pos hp]
  cases e1 : putT t d (wipeR ρ vs) with
  | ok u ρ1 =>
    rw [e1, R.bind_ok] at h
    rw [R.bind_ok]
    cases e2 : c ρ1 with
    | ok k ρ2 =>
      rw [e2, R.bind_ok] at h
      rw [R.bind_ok]
      cases k with
      | true =>
        rw [if_pos rfl]
        have h : ((el ρ2).bind fun y ρ3 => bif freeR ρ3 vs then R.ok (some y) (backR ρ ρ3 vs) else .stuck) = .ok o ρ' := h
        cases e3 : el ρ2 with
        | ok y ρ3 =>
          rw [e3, R.bind_ok] at h
          rw [R.bind_ok]
          cases e4 : freeR ρ3 vs with
          | true => rw [e4] at h; cases h; rw [if_pos ⟨hl, rfl⟩]; rfl
          | false => rw [e4] at h; cases h
        | exc x ρ3 => rw [e3] at h; cases h
        | stuck => rw [e3] at h; cases h
      | false =>
        rw [if_neg Bool.false_ne_true]
        have h : (bif freeR ρ2 vs then R.ok (none : Option D) (backR ρ ρ2 vs) else .stuck) = .ok o ρ' := h
        cases e4 : freeR ρ2 vs with
        | true => rw [e4] at h; cases h; rw [if_pos rfl]; simp
        | false => rw [e4] at h; cases h
    | exc x ρ3 => rw [e2] at h; cases h
    | stuck => rw [e2] at h; cases h
  | exc x ρ3 => rw [e1] at h; cases h
  | stuck => rw [e1] at h; cases h
end
end Mr
namespace Mr
open PySem PySem.Spec PyProof.Rows L2
theorem op_pow {i j : Int} {a : Nat} (h0 : 0 ≤ j) (h : Sz a i) (l : (a : Int) * j ≤ 2 ^ 27) : powD (.int i) (.int j) = .ok (.int (i ^ j.toNat)) := by
  have h1 := h.bits
  refine if_pos ⟨h0, ?_⟩
  have : (Builtin.Int.intBits i : Int) * j ≤ (a : Int) * j := Int.mul_le_mul_of_nonneg_right (by omega) h0
  omega
theorem sz_ten : Sz 4 10 := by unfold Sz; decide
def T18 : Int := 10 ^ 18
def T19 : Int := 10 ^ 19
def T60 : Int := 10 ^ 60
def T61 : Int := 10 ^ 61
def T671 : Int := 10 ^ 671
theorem sz_T61 : Sz 203 T61 := by unfold Sz T61; decide
theorem sz_T671 : Sz 2300 T671 := by unfold Sz T671; decide
theorem pos_T18 : 0 < T18 := by unfold T18; decide
theorem pos_T671 : 0 < T671 := by unfold T671; decide
@[simp] theorem pow_18 : powD (.int 10) (.int 18) = .ok (.int T18) := op_pow (by decide) sz_ten (by decide)
@[simp] theorem pow_19 : powD (.int 10) (.int 19) = .ok (.int T19) := op_pow (by decide) sz_ten (by decide)
@[simp] theorem pow_60 : powD (.int 10) (.int 60) = .ok (.int T60) := op_pow (by decide) sz_ten (by decide)
@[simp] theorem pow_61 : powD (.int 10) (.int 61) = .ok (.int T61) := op_pow (by decide) sz_ten (by decide)
@[simp] theorem pow_671 : powD (.int T61) (.int 11) = .ok (.int T671) := by
  rw [op_pow (by decide) sz_T61 (by decide)]
  have : T61 ^ (11 : Int).toNat = T671 := by unfold T61 T671; decide
  rw [this]
def B_bowl : M Fl :=
  (xSeq (xPut (.sl 2) (mIf (tOf (m2 ltD (mVar 1) (mL lenD (mCons (mVar 0) mNil)))) (m2 ixD (mVar 0) (mVar 1)) (m2 addD (m2 mulD (mC (.int 61)) (mVar 1)) (mC (.int 31)))))
  (xSeq (xPut (.sl 3) (m2 modD (mL intD (mCons (mL absD (mCons (mVar 2) mNil)) mNil)) (m2 powD (m2 powD (mC (.int 10)) (mC (.int 61))) (mC (.int 11)))))
  (xSeq (xPut (.sl 4) (m2 addD (m2 addD (m2 addD (m2 mulD (m2 modD (mL intD (mCons (mVar 3) mNil)) (mC (.int 2147483269))) (mC (.int 95273))) (m2 mulD (mC (.int 9403)) (mVar 1))) (m2 mulD (mC (.int 43)) (mL intD (mCons (m2 ltD (mVar 2) (mC (.int 0))) mNil)))) (mC (.int 71))))
  (xRetN (mLstN (mCons (mL max2D (mCons (mC (.int 0)) (mCons (m2 subD (mVar 3) (m2 powD (mC (.int 10)) (mC (.int 18)))) mNil))) (mCons (m2 modD (mL intD (mCons (mVar 4) mNil)) (mC (.int 2305843009213693907))) (mCons (mC (.int 0)) mNil))))))))
/-- a bowl from which at most n were drawn -/
def Bowl (n : Nat) (xs : List D) : Prop := ∃ a b c : Int, xs = [.int a, .int b, .int c] ∧ 0 ≤ a ∧ Sz 2300 a ∧ 0 ≤ b ∧ Sz 61 b ∧ 0 ≤ c ∧ c ≤ n
theorem Bowl.mono {n m : Nat} {xs : List D} (h : Bowl n xs) (l : n ≤ m) : Bowl m xs := by
  obtain ⟨a, b, c, rfl, a0, a1, b0, b1, c0, c1⟩ := h
  exact ⟨a, b, c, rfl, a0, a1, b0, b1, c0, by omega⟩
theorem mulOkS {i j : Int} {a b : Nat} (h : Sz a i) (h' : Sz b j) (l : a + b ≤ 134217728 := by decide) : mulOk i j := h.mulOk h' l
theorem sz_small {i : Int} (h0 : 0 ≤ i) (h1 : i < 18446744073709551616) : Sz 64 i := Sz.of_nat h0 h1
theorem E_bowl {ns : List Int} {k : Nat} (hk : k < 64) : ∃ xs, runN 5 B_bowl [.frz (ns.map .int), .int k] = .ok xs ∧ Bowl 0 xs := by
  obtain ⟨c, hc⟩ : ∃ c : Int, (k < ns.length ∧ (ns.map D.int)[k]? = some (.int c)) ∨ (¬ k < ns.length ∧ mulOk 61 k ∧ c = 61 * k + 31) := by
    by_cases h : k < ns.length
    · exact ⟨ns[k], .inl ⟨h, by simp [h]⟩⟩
    · exact ⟨61 * k + 31, .inr ⟨h, mulOkS (a := 64) (b := 64) (sz_small (by decide) (by decide)) (sz_small (by omega) (by omega)), rfl⟩⟩
  have hg1 : (0:Int) ≤ (if c < 0 then -c else c).fmod T671 := Int.fmod_nonneg_of_pos _ pos_T671
  have hg2 : Sz 2300 ((if c < 0 then -c else c).fmod T671) := sz_T671.fmod pos_T671
  obtain ⟨g, hg⟩ : ∃ g, g = (if c < 0 then -c else c).fmod T671 := ⟨_, rfl⟩
  rw [← hg] at hg1 hg2
  have b1 := Int.fmod_nonneg_of_pos g (show (0:Int) < 2147483269 by decide)
  have b2 := Int.fmod_lt_of_pos g (show (0:Int) < 2147483269 by decide)
  have m1 : mulOk (g.fmod 2147483269) 95273 := mulOkS (a := 64) (b := 64) (sz_small b1 (by omega)) (sz_small (by decide) (by decide))
  have m2 : mulOk 9403 k := mulOkS (a := 64) (b := 64) (sz_small (by decide) (by decide)) (sz_small (by omega) (by omega))
  have m3 : mulOk 43 (if c < 0 then 1 else 0) := mulOkS (a := 64) (b := 64) (sz_small (by decide) (by decide)) (by split <;> exact sz_small (by decide) (by decide))
  have m4 : T671 ≠ 0 := by have := pos_T671; omega
  refine ⟨[.int (if g - T18 > 0 then g - T18 else 0), .int (((((g.fmod 2147483269) * 95273) + 9403 * k) + 43 * (if c < 0 then 1 else 0) + 71).fmod 2305843009213693907), .int 0], ?_, ?_⟩
  · unfold runN B_bowl
    rcases hc with ⟨h, e⟩ | ⟨h, m0, rfl⟩
    · simp [h, ixD_frz e, op_modI m4, ← hg, op_modI, op_mulI m1, op_mulI m2, op_mulI m3, sizeLine_eq]
    · simp [h, op_mulI m0, op_modI m4, ← hg, op_modI, op_mulI m1, op_mulI m2, op_mulI m3, sizeLine_eq]
  · refine ⟨_, _, _, rfl, ?_, ?_, ?_, ?_, ?_, ?_⟩
    · split <;> omega
    · split
      · refine hg2.of_abs ?_
        have := pos_T18
        omega
      · exact Sz.zero
    · exact Int.fmod_nonneg_of_pos _ (by decide)
    · exact Sz.fmod (by unfold Sz; decide) (by decide)
    · decide
    · decide
def B_bit : M Fl :=
  (xSeq (xIf (tOf (m2 gtD (mIxN 0 (mC (.int 0))) (mC (.int 0)))) (xSeq (xPut (.sl 4) (m2 modD (mL intD (mCons (mIxN 0 (mC (.int 0))) mNil)) (mVar 1)))
  (xSeq (xSetIx 0 (m2 divD (mIxN 0 (mC (.int 0))) (mVar 1)) (mC (.int 0)))
  (xRet (mVar 4)))) xNx)
  (xSeq (xSetIx 0 (m2 addD (mIxN 0 (mC (.int 2))) (mC (.int 1))) (mC (.int 2)))
  (xSeq (xPut (.sl 2) (m2 modD (mL intD (mCons (m2 addD (mIxN 0 (mC (.int 1))) (m2 mulD (mC (.int 1000427)) (mIxN 0 (mC (.int 2))))) mNil)) (mC (.int 2305843009213693951))))
  (xSeq (xPut (.sl 3) (m2 addD (m2 mulD (m2 modD (mL intD (mCons (m2 mulD (mVar 2) (mVar 2)) mNil)) (mC (.int 2305843009213693921))) (mVar 2)) (m2 mulD (mC (.int 9091)) (mIxN 0 (mC (.int 2))))))
  (xRet (m2 modD (mL intD (mCons (m2 divD (m2 modD (mL intD (mCons (mVar 3) mNil)) (mC (.int 2305843009213693907))) (mC (.int 16384))) mNil)) (mVar 1)))))))
@[simp] theorem at0 {a b c : D} : atI [a, b, c] 0 = some a := id rfl
@[simp] theorem at1 {a b c : D} : atI [a, b, c] 1 = some b := id rfl
@[simp] theorem at2 {a b c : D} : atI [a, b, c] 2 = some c := id rfl
@[simp] theorem ix0' : ixN 3 0 = some 0 := id rfl
@[simp] theorem ix2' : ixN 3 2 = some 2 := id rfl
/-- a draw: 0 to m - 1 -/
theorem E_bit {xs : List D} {n : Nat} {m : Int} (h : Bowl n xs) (hm : 0 < m) (hs : Sz 9000 m) (hn : n < 1000000) : ∃ (k : Int) (ys : List D), runI 5 B_bit (.own true xs) [.int m] = .ok (.int k) (.own true ys) ∧ 0 ≤ k ∧ k < m ∧ Bowl (n + 1) ys := by
  obtain ⟨a, b, c, rfl, a0, a1, b0, b1, c0, c1⟩ := h
  have hm0 : m ≠ 0 := by omega
  by_cases ha : 0 < a
  · refine ⟨a.fmod m, [.int (a.fdiv m), .int b, .int c], ?_, Int.fmod_nonneg_of_pos _ hm, Int.fmod_lt_of_pos _ hm, _, _, _, rfl, ?_, ?_, b0, b1, c0, by omega⟩
    · unfold runI B_bit
      simp [ha, op_modI hm0, op_divI (hs.divOk hm0)]
    · exact Int.fdiv_nonneg a0 (by omega)
    · refine a1.of_abs ?_
      rw [Int.fdiv_eq_ediv_of_nonneg _ (by omega)]
      have := Int.ediv_le_self m a0
      have := Int.ediv_nonneg a0 (by omega : 0 ≤ m)
      omega
  · have sc : Sz 64 (c + 1) := sz_small (by omega) (by omega)
    have m1 : mulOk 1000427 (c + 1) := mulOkS (a := 64) (b := 64) (sz_small (by decide) (by decide)) sc
    have m2 : mulOk 9091 (c + 1) := mulOkS (a := 64) (b := 64) (sz_small (by decide) (by decide)) sc
    obtain ⟨o, ho⟩ : ∃ o, o = (b + 1000427 * (c + 1)).fmod 2305843009213693951 := ⟨_, rfl⟩
    have o1 : 0 ≤ o := by rw [ho]; exact Int.fmod_nonneg_of_pos _ (by decide)
    have o2 : o < 2305843009213693951 := by rw [ho]; exact Int.fmod_lt_of_pos _ (by decide)
    have so : Sz 64 o := sz_small o1 (by omega)
    have m3 : mulOk o o := mulOkS so so
    have s4 : Sz 64 ((o * o).fmod 2305843009213693921) := Sz.fmod (sz_small (by decide) (by decide)) (by decide)
    have m4 : mulOk ((o * o).fmod 2305843009213693921) o := mulOkS s4 so
    have d1 : ∀ i : Int, divOk i 16384 := fun i => Sz.divOk (b := 64) (sz_small (by decide) (by decide)) (by decide)
    refine ⟨((((((o * o).fmod 2305843009213693921) * o + 9091 * (c + 1)).fmod 2305843009213693907).fdiv 16384).fmod m), [.int a, .int b, .int (c + 1)], ?_, ?_, ?_, ?_⟩
    · unfold runI B_bit
      simp [ha, op_mulI m1, op_modI, ← ho, op_mulI m3, op_mulI m4, op_mulI m2, op_divI (d1 _), op_modI hm0]
    · exact Int.fmod_nonneg_of_pos _ hm
    · exact Int.fmod_lt_of_pos _ hm
    · exact ⟨_, _, _, rfl, a0, a1, b0, b1, by omega, by omega⟩
end Mr
namespace Pm
open PySem PySem.Spec PyProof.Rows L2 Mr
theorem great_big : ((2 ^ 600 : Nat) : Int) ≤ c_GREATEST := by unfold c_GREATEST; decide
/-- a number that can be passed -/
def isI (i : Int) : Bool := decide (-c_GREATEST ≤ i) && decide (i ≤ c_GREATEST)
theorem isI_sz {i : Int} (h : Sz 600 i) : isI i = true := by
  have h1 := h.lt; have h2 := h.gt; have h3 := great_big
  have a1 : -c_GREATEST ≤ i := by omega
  have a2 : i ≤ c_GREATEST := by omega
  simp [isI, a1, a2]
theorem e_is_integer' {i : Int} : m_is_integer [.int i] = .ok (.bl (isI i)) := by
  unfold m_is_integer b_is_integer runF isI
  by_cases a : -c_GREATEST ≤ i <;> simp [a]
theorem e_is_integer {i : Int} (h : Sz 600 i) : m_is_integer [.int i] = .ok (.bl true) := by rw [e_is_integer', isI_sz h]
def rowD (r : List Int) : D := .tup (r.map .int)
@[simp] theorem len_rowD {r : List Int} : lenD [rowD r] = .ok (.int r.length) := by simp [rowD]
@[simp] theorem walk_rowD {r : List Int} : walkD (rowD r) = .ok (r.map .int) := id rfl
@[simp] theorem isi_rowD {r : List Int} : isiD [rowD r, .opq (.ty "tuple")] = .ok (.bl true) := id rfl
@[simp] theorem okD_rowD {n : Nat} {r : List Int} : okD (n + 1) (rowD r) = true := by unfold rowD; simp
structure Row (ns : List Int) : Prop where
  ne : ns ≠ []
  le : ns.length ≤ 4
  sz : ∀ x ∈ ns, Sz 600 x
theorem Row.pos {ns : List Int} (h : Row ns) : (1 : Int) ≤ ns.length := by have := List.length_pos_iff.mpr h.ne; omega
theorem Row.le' {ns : List Int} (h : Row ns) : (ns.length : Int) ≤ 4 := by have := h.le; omega
theorem Row.line {ns : List Int} (h : Row ns) : ns.length ≤ sizeLine := Nat.le_trans h.le (by decide)
theorem e_is_row {ns : List Int} (h : Row ns) : m_is_row [rowD ns] = .ok (.bl true) := by
  have hq : q1_is_row [.val (rowD ns), .un] = .ok (ns.map fun _ => D.bl true) [.val (rowD ns), .un] := by
    unfold q1_is_row
    simp
    rw [lcM_map D.int ns (fun _ => .bl true) rfl h.line fun x hx => by simp [turnM, e1_is_row, e_is_integer (h.sz x hx)]]
    rfl
  unfold m_is_row b_is_row runF
  simp [c_WIDEST, h.pos, h.le', hq]
/-- the sum of products -/
def dot (xs ys : List Int) : Int := (xs.zipWith (· * ·) ys).sum
/-- x + y, number by number -/
def addR (xs ys : List Int) : List Int := xs.zipWith (· + ·) ys
def mulR (n : Int) (xs : List Int) : List Int := xs.map (n * ·)
@[simp] theorem addR_len {xs ys : List Int} : (addR xs ys).length = min xs.length ys.length := by unfold addR; exact List.length_zipWith
@[simp] theorem mulR_len {n : Int} {xs : List Int} : (mulR n xs).length = xs.length := by unfold mulR; exact List.length_map _
@[simp] theorem zip_rowD {xs ys : List Int} : zipMD [rowD xs, rowD ys] = .ok (xs.zipWith (fun x y => .tup [.int x, .int y]) ys) := by
  show FR.ok ((xs.map D.int).zipWith Mr.pairD (ys.map D.int)) = _
  rw [List.zipWith_map]
  rfl
@[simp] theorem zip_lrow {xs ys : List Int} : zipMD [.lst (xs.map .int), rowD ys] = .ok (xs.zipWith (fun x y => .tup [.int x, .int y]) ys) := by
  show FR.ok ((xs.map D.int).zipWith Mr.pairD (ys.map D.int)) = _
  rw [List.zipWith_map]
  rfl
end Pm
namespace Pm
open PySem PySem.Spec PyProof.Rows L2 Mr
theorem e_bowl {ns : List Int} {k : Nat} (hk : k < 64) : ∃ xs, m__law_bowl [.frz (ns.map .int), .int k] = .ok xs ∧ Bowl 0 xs := E_bowl hk
theorem e_bitZ {xs : List D} {n : Nat} {m : Int} (h : Bowl n xs) (hm : 0 < m) (hs : Sz 9000 m) (hn : n < 1000000) : ∃ (k : Int) (ys : List D), m__law_bit (.own true xs) [.int m] = .ok (.int k) (.own true ys) ∧ 0 ≤ k ∧ k < m ∧ Bowl (n + 1) ys := E_bit h hm hs hn
theorem e_bit {xs : List D} {n : Nat} {m : Int} (h : Bowl n xs) (hm : 0 < m) (hs : m < 1000000000) (hn : n < 1000000) : ∃ (k : Nat) (ys : List D), m__law_bit (.own true xs) [.int m] = .ok (.int k) (.own true ys) ∧ (k : Int) < m ∧ Bowl (n + 1) ys := by
  obtain ⟨k, ys, e, k0, k1, h'⟩ := E_bit h hm ((sz_small (by omega) (by omega)).mono (by decide)) hn
  obtain ⟨j, rfl⟩ : ∃ j : Nat, k = (j : Int) := ⟨k.toNat, by omega⟩
  exact ⟨j, ys, e, k1, h'⟩
/-- a list of draws: the other slots stay as they are -/
theorem draw_list {vs : List Nat} {t : Tg} {el : M D} {rest : Ro} {P : D → Prop} {cost : Nat} (ds : List D) (xs : List D) (b : Nat) (hB : Bowl b xs) (hpl : ∀ xs, plainR (.own true xs :: rest) vs = true) (small : ds.length < 1000000)
    (h : ∀ d ∈ ds, ∀ xs b', b' + cost ≤ b + cost * ds.length → Bowl b' xs → ∃ y ys, turnM vs t el (.own true xs :: rest) d = .ok y (.own true ys :: rest) ∧ P y ∧ Bowl (b' + cost) ys) :
    ∃ l ys, lcM vs t tYesM el ds [] (.own true xs :: rest) = .ok l (.own true ys :: rest) ∧ l.length = ds.length ∧ (∀ y ∈ l, P y) ∧ Bowl (b + cost * ds.length) ys := by
  obtain ⟨ys, ρ', e, ⟨zs, rfl, hz⟩, l, p⟩ := lcM_run2 (vs := vs) (t := t) (el := el) (I := fun j ρ => ∃ ys, ρ = .own true ys :: rest ∧ Bowl (b + cost * j) ys) (P := P) ds [] 0 (.own true xs :: rest) (by simp [sizeLine_eq]; omega) ⟨xs, rfl, by simpa using hB⟩
    (fun d hd j ρ h0 h1 hI => by
      obtain ⟨zs, rfl, hz⟩ := hI
      refine ⟨hpl _, ?_⟩
      have hj : j + 1 ≤ ds.length := by omega
      have hc : cost * (j + 1) ≤ cost * ds.length := Nat.mul_le_mul_left _ hj
      rw [Nat.mul_add, Nat.mul_one] at hc
      obtain ⟨y, ys, e, py, hy⟩ := h d hd zs (b + cost * j) (by omega) hz
      exact ⟨y, _, e, ⟨ys, rfl, by rw [Nat.mul_add, Nat.mul_one, ← Nat.add_assoc]; exact hy⟩, py⟩)
  rw [Nat.zero_add] at hz
  exact ⟨ys, zs, by simpa using e, l, p, hz⟩
theorem rangeN (n : Nat) (h : n ≤ 1000000000) : range1D [.int (n : Int)] = .ok ((List.range n).map fun (k : Nat) => .int k) := by
  have := range1_of (i := (n : Int)) (by omega) (by omega)
  rwa [Int.toNat_natCast] at this
theorem e_pickL {xs ds : List D} {b : Nat} (h : Bowl b xs) (h0 : ds ≠ []) (hl : ds.length < 1000000) (hb : b < 1000000) :
    ∃ d ys, d ∈ ds ∧ m__law_pick (.own true xs) [.lst ds] = .ok d (.own true ys) ∧ Bowl (b + 1) ys := by
  have l0 := List.length_pos_iff.mpr h0
  obtain ⟨k, ys, e, hk, h'⟩ := e_bit h (m := ds.length) (by omega) (by omega) hb
  have hk : k < ds.length := by omega
  have g : ds[k]? = some ds[k] := List.getElem?_eq_getElem hk
  refine ⟨ds[k], ys, List.getElem_mem hk, ?_, h'⟩
  unfold m__law_pick b__law_pick runI
  simp [e, ixD_lst g]
/-- -M to M -/
theorem e_smallZ {xs : List D} {b : Nat} {M : Int} (h : Bowl b xs) (hM : 1 ≤ M) (hM2 : Sz 8000 M) (hb : b < 900000) : ∃ (k : Int) (ys : List D), m__law_small (.own true xs) [.int M] = .ok (.int k) (.own true ys) ∧ -M ≤ k ∧ k ≤ M ∧ Bowl (b + 2) ys := by
  obtain ⟨lot, x1, e1, l1, b1⟩ := e_bit h (m := 4) (by decide) (by decide) (by omega)
  by_cases hl : (lot : Int) < 2
  · refine ⟨lot, x1, ?_, by omega, by omega, b1.mono (by omega)⟩
    unfold m__law_small b__law_small runI
    simp [e1, hl]
  · have m1 : mulOk 2 M := mulOkS (a := 64) (sz_small (by decide) (by decide)) hM2
    have s2 : Sz 9000 (2 * M + 1) := by
      have := (hM2.add hM2).add (Sz.one)
      rw [show M + M + 1 = 2 * M + 1 by omega] at this
      exact this.mono (by decide)
    obtain ⟨k, x2, e2, k0, k1, b2⟩ := e_bitZ b1 (m := 2 * M + 1) (by omega) s2 (by omega)
    refine ⟨k - M, x2, ?_, by omega, by omega, b2⟩
    unfold m__law_small b__law_small runI
    simp [e1, hl, op_mulI m1, e2]
def small (M : Int) (r : List Int) : Prop := ∀ x ∈ r, -M ≤ x ∧ x ≤ M
theorem small.sz {M : Int} {a : Nat} {r : List Int} (h : small M r) (hM : Sz a M) : ∀ x ∈ r, Sz a x := fun x hx => hM.of_abs (by have := h x hx; omega)
theorem small.mono {M N : Int} {r : List Int} (h : small M r) (l : M ≤ N) : small N r := fun x hx => by have := h x hx; omega
theorem small.append {M : Int} {r q : List Int} (h : small M r) (h' : small M q) : small M (r ++ q) := fun x hx => (List.mem_append.mp hx).elim (h x) (h' x)
theorem line_core {xs zs : List D} {ks : List Int} {L : List D} {n M : Int} (rn : range1D [.int n] = .ok L)
    (e : lcM [3] (.sl 3) tYesM e1__law_line L [] [.own true xs, .val (.int n), .val (.int M), .un] = .ok (ks.map .int) [.own true zs, .val (.int n), .val (.int M), .un]) :
    m__law_line (.own true xs) [.int n, .int M] = .ok (rowD ks) (.own true zs) := by
  unfold m__law_line b__law_line q1__law_line runI
  simp [rn, e, rowD]
theorem e_lineZ {xs : List D} {b n : Nat} {M : Int} (h : Bowl b xs) (hM : 1 ≤ M) (hM2 : Sz 8000 M) (hb : b + 2 * n < 900000) : ∃ (r : List Int) (ys : List D), m__law_line (.own true xs) [.int n, .int M] = .ok (rowD r) (.own true ys) ∧ r.length = n ∧ small M r ∧ Bowl (b + 2 * n) ys := by
  obtain ⟨l, zs, e, hl, hp, hz⟩ := draw_list (vs := [3]) (t := .sl 3) (el := e1__law_line) (rest := [.val (.int n), .val (.int M), .un]) (P := fun y => ∃ k, y = .int k ∧ (-M ≤ k ∧ k ≤ M)) (cost := 2) ((List.range n).map fun (k : Nat) => D.int k) xs b h (fun _ => rfl) (by simp; omega)
    (fun d hd zs b' hb' hz => by
      rw [List.length_map, List.length_range] at hb'
      obtain ⟨k, ys, e, s1, s2, hy⟩ := e_smallZ hz hM hM2 (by omega)
      exact ⟨.int k, ys, by simp [turnM, e1__law_line, e], ⟨k, rfl, s1, s2⟩, hy⟩)
  obtain ⟨ks, rfl, hk⟩ := ints_of hp
  rw [List.length_map, List.length_map, List.length_range] at hl
  rw [List.length_map, List.length_range] at hz
  exact ⟨ks, zs, line_core (rangeN n (by omega)) e, hl, hk, hz⟩
theorem e_line {xs : List D} {b n M : Nat} (h : Bowl b xs) (hM : 1 ≤ M) (hM2 : M < 1000) (hb : b + 2 * n < 900000) : ∃ (r : List Int) (ys : List D), m__law_line (.own true xs) [.int n, .int M] = .ok (rowD r) (.own true ys) ∧ r.length = n ∧ small M r ∧ Bowl (b + 2 * n) ys :=
  e_lineZ h (by omega) ((sz_small (by omega) (by omega)).mono (by decide)) hb
theorem zero_row : ∀ n : Nat, (List.replicate n [D.int 0]).flatten = List.replicate n (D.int 0)
  | 0 => rfl
  | n + 1 => by rw [List.replicate_succ, List.flatten_cons, zero_row n]; rfl
theorem mul_zero {n : Nat} (h4 : n ≤ 1000) : mulD (.tup [.int 0]) (.int n) = .ok (rowD (List.replicate n 0)) := by
  have e : rowD (List.replicate n 0) = .tup (List.replicate n (.int 0)) := by unfold rowD; rw [List.map_replicate]
  rw [e]
  show (if (n : Int) = 1 then FR.ok (D.tup [.int 0]) else if _ then _ else if _ then FR.ok (D.tup (List.replicate (n : Int).toNat [D.int 0]).flatten) else .stuck) = _
  by_cases q : n = 1
  · subst q; rfl
  · rw [if_neg (by omega)]
    by_cases q0 : n = 0
    · subst q0; rw [if_pos ⟨by simp, by omega, by omega⟩]; rfl
    · rw [if_neg (by simp; omega), if_pos ⟨by simp, by omega, by omega, by simp⟩, Int.toNat_natCast, zero_row]
theorem deal_core {xs ys waits : List D} {it : SV} {t d : D} {k : Nat} (e : m__law_bit (.own true xs) [.int waits.length] = .ok (.int k) (.own true ys)) (hk : k < waits.length) (hl : waits.length < 1000000) (hs : seqIndex? (k : Int) waits.length = some k) (hd : waits[k]? = some d) :
    turnO [3] (.sl 3) tYesM e1__law_dealt [.own true xs, it, .own false waits, .un] t = .ok (some d) [.own true ys, it, .own false (waits.eraseIdx k), .un] := by
  have h1 : I63 (k : Int) := ⟨by omega, by omega⟩
  simp [turnO, e1__law_dealt, e, hs, hd, h1]
theorem erase_perm {α : Type} : ∀ {l : List α} {k : Nat} (h : k < l.length), List.Perm (l[k] :: l.eraseIdx k) l
  | a :: l, 0, _ => List.Perm.refl _
  | a :: l, k + 1, h => by
    have h' : k < l.length := by simpa using h
    have ih := erase_perm (l := l) (k := k) h'
    exact (List.Perm.swap a l[k] (l.eraseIdx k)).trans (.cons a ih)
theorem deal_run {it : SV} : ∀ (ts : List D) (waits acc xs : List D) (b : Nat), ts.length = waits.length → Bowl b xs → b + ts.length < 1000000 → acc.length + ts.length < 1000000 →
    ∃ ys zs, lcM [3] (.sl 3) tYesM e1__law_dealt ts acc [.own true xs, it, .own false waits, .un] = .ok (acc ++ ys) [.own true zs, it, .own false [], .un] ∧ List.Perm ys waits ∧ Bowl (b + ts.length) zs
  | [], waits, acc, xs, b, hl, hb, _, _ => by
    have e : waits = [] := List.eq_nil_of_length_eq_zero hl.symm
    subst e
    exact ⟨[], xs, by simp [lcM], .nil, hb⟩
  | t :: ts, waits, acc, xs, b, hl, hb, h1, h2 => by
    rw [List.length_cons] at hl h1 h2
    obtain ⟨k, ys, e, hk, hb'⟩ := e_bit hb (m := waits.length) (by omega) (by omega) (by omega)
    have hk : k < waits.length := by omega
    have hd : waits[k]? = some waits[k] := List.getElem?_eq_getElem hk
    have hs : seqIndex? (k : Int) waits.length = some k := by
      have := seqIndex_of (n := waits.length) (k := (k : Int)) (by omega) (by omega)
      simpa using this
    have st := deal_core (it := it) (t := t) e hk (by omega) hs hd
    have le : (waits.eraseIdx k).length = waits.length - 1 := List.length_eraseIdx_of_lt hk
    obtain ⟨zs, us, f, p, hz⟩ := deal_run ts (waits.eraseIdx k) (acc ++ [waits[k]]) ys (b + 1) (by omega) hb' (by omega) (by rw [List.length_append, List.length_singleton]; omega)
    refine ⟨waits[k] :: zs, us, ?_, ?_, by rw [List.length_cons, show b + (ts.length + 1) = b + 1 + ts.length by omega]; exact hz⟩
    · have hsz : acc.length < sizeLine := by rw [sizeLine_eq]; omega
      rw [lcM_step rfl hsz st]
      show lcM _ _ _ _ ts (acc ++ [waits[k]]) _ = _
      rw [f]
      simp
    · exact (List.Perm.cons _ p).trans (erase_perm hk)
theorem dealt_coreL {xs zs ds ys L : List D} {len : Int} (hl : lenD [.lst ds] = .ok (.int len)) (rn : range1D [.int len] = .ok L)
    (e : lcM [3] (.sl 3) tYesM e1__law_dealt L [] [.own true xs, .val (.lst ds), .own false ds, .un] = .ok ys [.own true zs, .val (.lst ds), .own false [], .un]) :
    m__law_dealt (.own true xs) [.lst ds] = .ok (.lst ys) (.own true zs) := by
  unfold m__law_dealt b__law_dealt q1__law_dealt runI
  simp [-op_lenL, hl, rn, e]
theorem e_dealtL {xs ds : List D} {b : Nat} (h : Bowl b xs) (hl : ds.length < 100000) (hb : b < 800000) :
    ∃ ys zs, m__law_dealt (.own true xs) [.lst ds] = .ok (.lst ys) (.own true zs) ∧ List.Perm ys ds ∧ Bowl (b + ds.length) zs := by
  obtain ⟨ys, zs, e, p, hz⟩ := deal_run (it := .val (.lst ds)) ((List.range ds.length).map fun (k : Nat) => D.int k) ds [] xs b (by simp) h (by simp; omega) (by simp; omega)
  rw [List.nil_append] at e
  rw [List.length_map, List.length_range] at hz
  exact ⟨ys, zs, dealt_coreL op_lenL (rangeN _ (by omega)) e, p, hz⟩
theorem perm_map {α β : Type} {f : α → β} : ∀ {l : List α} {ys : List β}, List.Perm ys (l.map f) → ∃ l', ys = l'.map f ∧ List.Perm l' l := by
  intro l ys h
  generalize hm : l.map f = ms at h
  induction h generalizing l with
  | nil => exact ⟨[], rfl, by simp [List.map_eq_nil_iff.mp hm]⟩
  | cons x p ih =>
    obtain ⟨a, l1, rfl, rfl, e⟩ := List.map_eq_cons_iff.mp hm
    obtain ⟨l', e1, e2⟩ := ih e
    exact ⟨a :: l', by rw [e1]; rfl, .cons _ e2⟩
  | swap x y l2 =>
    obtain ⟨a, l1, rfl, rfl, e⟩ := List.map_eq_cons_iff.mp hm
    obtain ⟨b, l3, rfl, rfl, e'⟩ := List.map_eq_cons_iff.mp e
    exact ⟨b :: a :: l3, by rw [← e']; rfl, .swap _ _ _⟩
  | trans p1 p2 ih1 ih2 =>
    obtain ⟨l', e1, e2⟩ := ih2 hm
    obtain ⟨l'', e3, e4⟩ := ih1 e1.symm
    exact ⟨l'', e3, e4.trans e2⟩
/-- data of a kind -/
theorem map_of {α : Type} (g : α → D) {p : α → Prop} : ∀ {ys : List D}, (∀ y ∈ ys, ∃ s, y = g s ∧ p s) → ∃ ss : List α, ys = ss.map g ∧ ∀ s ∈ ss, p s
  | [], _ => ⟨[], rfl, by simp⟩
  | y :: ys, h => by
    obtain ⟨k, e, q⟩ := h y (List.mem_cons_self ..)
    obtain ⟨ks, e2, q2⟩ := map_of g fun z hz => h z (List.mem_cons_of_mem _ hz)
    exact ⟨k :: ks, by rw [e, e2]; rfl, fun z hz => by
      rcases List.mem_cons.mp hz with e | e
      · rw [e]; exact q
      · exact q2 z e⟩
theorem cut_take {xs : List D} {k : Nat} : Mr.cutD xs none (some (k : Int)) = xs.take k := by
  unfold Mr.cutD
  have h0 : HT.sIx xs.length 0 none = 0 := rfl
  have h1 : HT.sIx xs.length xs.length (some (k : Int)) = min k xs.length := HT.sIx_nat xs.length xs.length k
  rw [h0, h1, List.drop_zero, Nat.sub_zero]
  rcases Nat.le_total k xs.length with h | h
  · rw [Nat.min_eq_left h]
  · rw [Nat.min_eq_right h, List.take_of_length_le (Nat.le_refl _), List.take_of_length_le h]
theorem cut_drop {xs : List D} {k : Nat} : Mr.cutD xs (some (k : Int)) none = xs.drop k := by
  unfold Mr.cutD
  have h1 : HT.sIx xs.length 0 (some (k : Int)) = min k xs.length := HT.sIx_nat xs.length 0 k
  have h0 : HT.sIx xs.length xs.length none = xs.length := rfl
  rw [h0, h1]
  rcases Nat.le_total k xs.length with h | h
  · rw [Nat.min_eq_left h, List.take_of_length_le (by simp)]
  · rw [Nat.min_eq_right h, List.drop_eq_nil_of_le (Nat.le_refl _), List.drop_eq_nil_of_le h, List.take_nil]
end Pm
namespace Pm
open PySem PySem.Spec PyProof.Rows L2 Mr
theorem piled_le (W : Nat) : ∀ ts : List Str, (∀ t ∈ ts, t.length ≤ W) → piled ts ≤ ts.length * (W + 2)
  | [], _ => by simp [piled]
  | t :: ts, h => by
    have h1 := h t (List.mem_cons_self ..)
    have ih := piled_le W ts fun u hu => h u (List.mem_cons_of_mem _ hu)
    rw [piled_cons, List.length_cons, Nat.add_mul, Nat.one_mul]
    omega
theorem join_le (W : Nat) (ts : List Str) (h : ∀ t ∈ ts, t.length ≤ W) : (Str.join ", " ts).length ≤ ts.length * (W + 2) := by
  by_cases e : ts = []
  · subst e; show (Str.empty).length ≤ _; exact Nat.zero_le _
  · have h1 := join_length_add ts e
    have h2 := piled_le W ts h
    omega
theorem shown_all (xs : List D) : PyData.shownAll (pys xs) = xs.map fun x => (py x).shown := by
  induction xs with
  | nil => rfl
  | cons x xs ih => rw [pys, PyData.shownAll_cons, ih]; rfl
/-- its text has at most W signs -/
def ShW (W : Nat) (d : D) : Prop := (py d).shown.length ≤ W ∧ (py d).showable = true
theorem ShW.mono {W V : Nat} {d : D} (h : ShW W d) (l : W ≤ V) : ShW V d := ⟨Nat.le_trans h.1 l, h.2⟩
theorem sh_int {i : Int} (h : Sz 1900 i) : ShW 1921 (.int i) := by
  have hl : i.natAbs.log2 < 1920 := by
    by_cases z : i.natAbs = 0
    · rw [z]; decide
    · exact Nat.lt_of_lt_of_le ((Nat.log2_lt z).mpr h) (by decide)
  refine ⟨?_, ?_⟩
  · show ((PyData.int i).shown).length ≤ _
    rw [PyData.shown_int]
    exact int_text_len_1921 hl
  · show PyData.showable (.int i) = true
    simp only [PyData.showable]
    exact decide_eq_true hl
theorem showableAll_map {xs : List D} (h : ∀ x ∈ xs, (py x).showable = true) : PyData.showableAll (pys xs) = true := by
  induction xs with
  | nil => rfl
  | cons x xs ih =>
    rw [pys, PyData.showableAll, h x (List.mem_cons_self ..), ih fun y hy => h y (List.mem_cons_of_mem _ hy)]; rfl
theorem sh_tup {W : Nat} {xs : List D} (h : ∀ x ∈ xs, ShW W x) : ShW (xs.length * (W + 2) + 4) (.tup xs) := by
  refine ⟨?_, ?_⟩
  · show ((PyData.tuple (pys xs)).shown).length ≤ _
    rw [PyData.shown_tuple, shown_all, Str.length_append, Str.length_append]
    have h1 := join_le W (xs.map fun x => (py x).shown) fun t ht => by
      obtain ⟨x, hx, rfl⟩ := List.mem_map.mp ht
      exact (h x hx).1
    rw [List.length_map] at h1
    have e1 : (("(" : Str)).length = 1 := rfl
    have e2 : (((if (pys xs).length == 1 then ",)" else ")" : String) : Str)).length ≤ 2 := by split <;> decide
    omega
  · show PyData.showable (.tuple (pys xs)) = true
    simp only [PyData.showable]
    exact showableAll_map fun x hx => (h x hx).2
theorem sh_row {r : List Int} (h : ∀ x ∈ r, Sz 1900 x) : ShW (r.length * 1923 + 4) (rowD r) := by
  have := sh_tup (W := 1921) (xs := r.map .int) fun x hx => by
    obtain ⟨i, hi, rfl⟩ := List.mem_map.mp hx
    exact sh_int (h i hi)
  rw [List.length_map] at this
  exact this
theorem e_repr {d : D} {W : Nat} (h : ShW W d) (hk : okD 12 d = true) (hW : W ≤ 16000000) : reprD [d] = .ok (.str (py d).shown) := by
  show (if _ then _ else _) = _
  rw [if_pos ⟨hk, h.2, by rw [sizeLine_eq]; have := h.1; omega⟩]
/-- equal data have equal texts -/
@[simp] theorem ne_str_self {s : Str} : neD (.str s) (.str s) = .ok (.bl false) := op_neS (by simp)
end Pm
namespace Pm
open PySem PySem.Spec PyProof.Rows L2 Mr
section
variable {ρ : Ro} {a f : M D} {m : FR D → FR D} {c x : Str} {d : D} {s : List SV} {r : FR D}
@[simp] theorem ap_Lam : mLam m f ρ = (m (f (stillR ρ)).toF).lift ρ := id rfl
@[simp] theorem ap_RaiseI : xRaiseI c x a ρ = (a ρ).bind fun d ρ => .exc ⟨.own c, [(x, d)]⟩ ρ := id rfl
@[simp] theorem ap_Raise : xRaise c ρ = .exc ⟨.own c, []⟩ ρ := id rfl
@[simp] theorem still_nil : stillR [] = [] := id rfl
@[simp] theorem still_val : stillR (.val d :: s) = .val d :: stillR s := id rfl
@[simp] theorem still_un : stillR (.un :: s) = .un :: stillR s := id rfl
@[simp] theorem still_own {p : Bool} {xs : List D} : stillR (.own p xs :: s) = .un :: stillR s := id rfl
@[simp] theorem still_pin : stillR (.pin :: s) = .pin :: stillR s := id rfl
@[simp] theorem toF_ok {α : Type} {a : α} : (R.ok a ρ).toF = .ok a := id rfl
@[simp] theorem toF_exc {α : Type} {e : Ex} : (R.exc e ρ : R α).toF = .exc e := id rfl
@[simp] theorem toF_lift {α : Type} {r : FR α} : (r.lift ρ).toF = r := by cases r <;> rfl
@[simp] theorem ap_thunk : mThunk r (.pin :: s) = r.lift (.pin :: s) := id rfl
/-- the words for errors that keep nothing -/
abbrev exE (c : Str) : Ex := ⟨.own c, []⟩
end
end Pm
namespace Pm
open PySem PySem.Spec PyProof.Rows L2 Mr
@[simp] theorem all_rep {n : Nat} : allD [.lst (List.replicate n (.bl true))] = .ok (.bl true) := by
  have : List.replicate n (D.bl true) = (List.replicate n true).map D.bl := by rw [List.map_replicate]
  rw [this, op_all]
  congr 2
  simp
structure StepOk (n i : Nat) (r : List Int) : Prop where
  len : r.length = n + 1
  sm : small 20 r
  own : ∀ x, r[i + 1]? = some x → -9 ≤ x ∧ x ≤ 9
  zero : ∀ j x, i + 1 < j → r[j]? = some x → x = 0
theorem ixD_row {r : List Int} {k : Nat} {x : Int} (h : r[k]? = some x) : ixD (rowD r) (.int k) = .ok (.int x) := ixD_tup (by simp [h])
theorem ixD_rowZ {r : List Int} {i : Int} {k : Nat} {x : Int} (e : i = k) (h : r[k]? = some x) : ixD (rowD r) (.int i) = .ok (.int x) := by rw [e]; exact ixD_row h
def rowsD (rs : List (List Int)) : D := .tup (rs.map rowD)
@[simp] theorem len_rowsD {rs : List (List Int)} : lenD [rowsD rs] = .ok (.int rs.length) := by simp [rowsD]
@[simp] theorem walk_rowsD {rs : List (List Int)} : walkD (rowsD rs) = .ok (rs.map rowD) := id rfl
@[simp] theorem isi_rowsD {rs : List (List Int)} : isiD [rowsD rs, .opq (.ty "tuple")] = .ok (.bl true) := id rfl
structure Tst where
  more : Bool
  f : List Int
def sgS (b : Bool) : Str := if b then Str.ofString "more" else Str.ofString "least"
def tstD (t : Tst) : D := .tup [.str (sgS t.more), rowD t.f]
structure TstOk (n : Nat) (t : Tst) : Prop where
  len : t.f.length = n + 1
  sm : small 99 t.f
def tstsD (ts : List Tst) : D := .tup (ts.map tstD)
@[simp] theorem len_tstsD {ts : List Tst} : lenD [tstsD ts] = .ok (.int ts.length) := by simp [tstsD]
@[simp] theorem walk_tstsD {ts : List Tst} : walkD (tstsD ts) = .ok (ts.map tstD) := id rfl
@[simp] theorem isi_tstsD {ts : List Tst} : isiD [tstsD ts, .opq (.ty "tuple")] = .ok (.bl true) := id rfl
def NameOk (x : Str) : Prop := m_is_name [.str x] = .ok (.bl true) ∧ (decide (1 ≤ x.length) && decide (x.length ≤ 8) && (x.cps.toList.all fun c => decide (97 ≤ c ∧ c ≤ 122)) && !(x == Str.ofString "nobody")) = true
def strsT (xs : List Str) : D := .tup (xs.map .str)
@[simp] theorem len_strsT {xs : List Str} : lenD [strsT xs] = .ok (.int xs.length) := by simp [strsT]
@[simp] theorem walk_strsT {xs : List Str} : walkD (strsT xs) = .ok (xs.map .str) := id rfl
@[simp] theorem isi_strsT {xs : List Str} : isiD [strsT xs, .opq (.ty "tuple")] = .ok (.bl true) := id rfl
structure Lp where
  names : List Str
  steps : List (List Int)
  tests : List Tst
def Lp.n (l : Lp) : Nat := l.names.length
structure LpOk (l : Lp) : Prop where
  n0 : l.names ≠ []
  n3 : l.n ≤ 3
  nd : l.names.Nodup
  nm : ∀ x ∈ l.names, NameOk x
  sl : l.steps.length = l.n
  st : ∀ i r, l.steps[i]? = some r → StepOk l.n i r
  t0 : l.tests ≠ []
  t4 : l.tests.length ≤ 4
  ts : ∀ t ∈ l.tests, TstOk l.n t
def Lp.unit (l : Lp) : List Int := 1 :: List.replicate l.n 0
def Lp.mat (l : Lp) : List (List Int) := l.unit :: l.steps
def lpNs : List Str := ["own_names", "own_steps", "own_by_name", "own_tests", "own_width", "own_matrix"]
def lpD (l : Lp) : D := .obj "Loop" lpNs [strsT l.names, rowsD l.steps, .dct (l.names.map .inr) (l.steps.map rowD), tstsD l.tests, .int ((l.n : Int) + 1), rowsD l.mat]
end Pm
namespace Pm
open PySem PySem.Spec PyProof.Rows L2 Mr
def within (m : Int) (ns : List Int) : Bool := ns.all fun x => decide (-m ≤ x) && decide (x ≤ m)
theorem e_is_row_within {ns : List Int} {w m : Int} (h : Row ns) : m_is_row_within [rowD ns, .int w, .int m] = .ok (.bl (decide ((ns.length : Int) = w) && within m ns)) := by
  have hq : q1_is_row_within [.val (rowD ns), .val (.int w), .val (.int m), .un] = .ok (ns.map fun x => .bl (decide (-m ≤ x) && decide (x ≤ m))) [.val (rowD ns), .val (.int w), .val (.int m), .un] := by
    unfold q1_is_row_within
    simp
    rw [lcM_map D.int ns (fun x => .bl (decide (-m ≤ x) && decide (x ≤ m))) rfl h.line fun x hx => by
      by_cases a : -m ≤ x <;> simp [turnM, e1_is_row_within, a]]
    simp
  unfold m_is_row_within b_is_row_within runF
  by_cases a : (ns.length : Int) = w
  · simp [e_is_row h, a, hq, within]
  · simp [e_is_row h, a]
inductive Sg where
  | more | least | null
  deriving DecidableEq
def Sg.s : Sg → Str
  | .more => Str.ofString "more"
  | .least => Str.ofString "least"
  | .null => Str.ofString "null"
structure Strand where
  g : Sg
  rows : List (List Int)
def sD (s : Strand) : D := .tup [.str s.g.s, .tup (s.rows.map rowD)]
structure StrandOk (n : Nat) (s : Strand) : Prop where
  ne : s.rows ≠ []
  le : s.rows.length ≤ 6
  row : ∀ r ∈ s.rows, r.length = n ∧ ∀ x ∈ r, -99999999999999999999 ≤ x ∧ x ≤ 99999999999999999999
theorem sz_max {x : Int} (h : -99999999999999999999 ≤ x ∧ x ≤ 99999999999999999999) : Sz 67 x := Sz.of (by have e : ((2 ^ 67 : Nat) : Int) = 147573952589676412928 := by decide
                                                                                                           omega) (by have e : ((2 ^ 67 : Nat) : Int) = 147573952589676412928 := by decide
                                                                                                                      omega)
theorem StrandOk.rowOk {n : Nat} {s : Strand} (h : StrandOk n s) (h1 : 1 ≤ n) (h4 : n ≤ 4) {r : List Int} (hr : r ∈ s.rows) : Row r := by
  obtain ⟨l, b⟩ := h.row r hr
  exact ⟨fun e => by subst e; simp at l; omega, by omega, fun x hx => (sz_max (b x hx)).mono (by decide)⟩
theorem e_is_strand_of {n : Nat} {s : Strand} {w : Int} (h : StrandOk n s) (h1 : 1 ≤ n) (h4 : n ≤ 4) : m_is_strand_of [sD s, .int w] = .ok (.bl (decide ((n : Int) = w))) := by
  have hq : q1_is_strand_of [.val (.tup [.str s.g.s, .tup (s.rows.map rowD)]), .val (.int w), .val (.str s.g.s), .val (.tup (s.rows.map rowD)), .un] = .ok (s.rows.map fun _ => .bl (decide ((n : Int) = w))) [.val (.tup [.str s.g.s, .tup (s.rows.map rowD)]), .val (.int w), .val (.str s.g.s), .val (.tup (s.rows.map rowD)), .un] := by
    unfold q1_is_strand_of
    simp
    rw [lcM_map rowD s.rows (fun r => .bl (decide ((n : Int) = w))) rfl (Nat.le_trans h.le (by decide)) fun r hr => by
      have e := e_is_row_within (w := w) (m := c_MAX_SIZE) (h.rowOk h1 h4 hr)
      have wi : within c_MAX_SIZE r = true := by
        unfold within c_MAX_SIZE
        simp only [List.all_eq_true, Bool.and_eq_true, decide_eq_true_eq]
        exact fun x hx => (h.row r hr).2 x hx
      rw [wi, (h.row r hr).1, Bool.and_true] at e
      simp [turnM, e1_is_strand_of, e]]
    simp
  have l0 : 0 < s.rows.length := List.length_pos_iff.mpr h.ne
  have l6 := h.le
  have hs : ninD (.str s.g.s) (.tup [.str c_MORE, .str c_LEAST, .str c_NULL]) = .ok (.bl false) := by cases s.g <;> rfl
  have a1 : (1 : Int) ≤ s.rows.length := by omega
  have a2 : (s.rows.length : Int) ≤ 6 := by omega
  have hx : s.rows ≠ [] := h.ne
  unfold m_is_strand_of b_is_strand_of runF
  simp [sD, hs, a1, a2, c_MAX_ROWS, tupD_of, sizeLine_eq, hq]
  exact all_const hx
structure PackOk (n : Nat) (ss : List Strand) : Prop where
  h1 : 1 ≤ n
  h4 : n ≤ 4
  ne : ss ≠ []
  le : ss.length ≤ 12
  ok : ∀ s ∈ ss, StrandOk n s
theorem e_are_strands {n : Nat} {ss : List Strand} (h : PackOk n ss) : m_are_strands [.tup (ss.map sD)] = .ok (.bl true) := by
  have hI : ∀ w : Int, q1_are_strands [SV.val (.tup (ss.map sD)), .val (.int w), .un] = .ok (ss.map fun _ => .bl (decide ((n : Int) = w))) [SV.val (.tup (ss.map sD)), .val (.int w), .un] := fun w => by
    unfold q1_are_strands
    simp
    rw [lcM_map sD ss (fun _ => .bl (decide ((n : Int) = w))) rfl (Nat.le_trans h.le (by decide)) fun s hs => by simp [turnM, e1_are_strands, e_is_strand_of (h.ok s hs) h.h1 h.h4]]
    simp
  have hO := lcM_map (vs := [1]) (t := .sl 1) (el := e2_are_strands) (ρ := [SV.val (.tup (ss.map sD)), .un, .un]) D.int [1, 2, 3, 4] (fun w => .bl (decide ((n : Int) = w))) rfl (by decide) fun w hw => by
    simp [turnM, e2_are_strands, hI, all_const h.ne]
  have l0 : 0 < ss.length := List.length_pos_iff.mpr h.ne
  have l6 := h.le
  have a1 : (1 : Int) ≤ ss.length := by omega
  have a2 : (ss.length : Int) ≤ 12 := by omega
  have hr : range2D [.int 1, .int 5] = .ok (([1, 2, 3, 4] : List Int).map D.int) := rfl
  have hn : (n : Int) = 1 ∨ (n : Int) = 2 ∨ (n : Int) = 3 ∨ (n : Int) = 4 := by have := h.h1; have := h.h4; omega
  unfold m_are_strands b_are_strands q2_are_strands runF
  simp only [List.map_cons, List.map_nil] at hO hr
  simp [a1, a2, c_MAX_STRANDS, c_MAX_WIDTH, hr, hO]
  rcases hn with e | e | e | e <;> rw [e] <;> rfl
def sysD (n : Nat) (ss : List Strand) : D := .obj "System" ["own_strands", "own_width"] [.tup (ss.map sD), .int n]
theorem e_init {n : Nat} {ss : List Strand} (h : PackOk n ss) : m_System___init__ (.ins true "System" [] []) [.tup (ss.map sD)] = .ok .non (.ins true "System" ["own_strands", "own_width"] [.tup (ss.map sD), .int n]) := by
  obtain ⟨s, ss', e⟩ : ∃ s ss', ss = s :: ss' := by
    cases hh : ss with
    | nil => exact absurd hh h.ne
    | cons s ss' => exact ⟨s, ss', rfl⟩
  obtain ⟨r, rs, e2⟩ : ∃ r rs, s.rows = r :: rs := by
    cases hh : s.rows with
    | nil => exact absurd hh (h.ok s (by rw [e]; exact List.mem_cons_self ..)).ne
    | cons r rs => exact ⟨r, rs, rfl⟩
  have hl := ((h.ok s (by rw [e]; exact List.mem_cons_self ..)).row r (by rw [e2]; exact List.mem_cons_self ..)).1
  have e3 := e_are_strands h
  have p1 : putN "own_strands" [] = (["own_strands"] : List Str) := rfl
  have p2 : putN "own_width" ["own_strands"] = (["own_strands", "own_width"] : List Str) := rfl
  have p3 : ∀ x y : D, putX "own_width" y ["own_strands"] [x] = [x, y] := fun _ _ => rfl
  have p4 : ∀ y : D, putX "own_strands" y [] [] = [y] := fun _ => rfl
  unfold m_System___init__ b_System___init__ runI
  simp [e3, p1, p2, p3, p4]
  rw [e]
  simp [sD, e2, rowD, p2, p3, hl]
structure PtOk (n : Nat) (p : List Int) : Prop where
  len : p.length = n
  sz : ∀ x ∈ p, Sz 600 x
theorem PtOk.row {n : Nat} {p : List Int} (h : PtOk n p) (h1 : 1 ≤ n) (h4 : n ≤ 4) : Row p := ⟨fun e => by have := h.len; subst e; simp at this; omega, by rw [h.len]; exact h4, h.sz⟩
end Pm
namespace Pm
open PySem PySem.Spec PyProof.Rows L2 Mr
/-- what a strand's draw gives -/
structure Drawn (n M k : Nat) (s : Strand) : Prop where
  ne : s.rows ≠ []
  le : s.rows.length ≤ k
  row : ∀ r ∈ s.rows, r.length = n ∧ small M r
theorem e_strand {xs : List D} {b n M k : Nat} (h : Bowl b xs) (h1 : 1 ≤ n) (h4 : n ≤ 4) (hM : 1 ≤ M) (hM2 : M < 1000) (hk : 1 ≤ k) (hk6 : k ≤ 6) (hb : b < 800000) :
    ∃ (s : Strand) (ys : List D), m__law_strand (.own true xs) [.int n, .int M, .int k] = .ok (sD s) (.own true ys) ∧ Drawn n M k s ∧ Bowl (b + 56) ys := by
  obtain ⟨d, x1, hd, e1, b1⟩ := (e_pickL (ds := [.str (Str.ofString "more"), .str (Str.ofString "more"), .str (Str.ofString "least"), .str (Str.ofString "least"), .str (Str.ofString "null")]) h (by simp) (by decide) (by omega))
  obtain ⟨g, rfl⟩ : ∃ g : Sg, d = .str g.s := by
    simp only [List.mem_cons, List.not_mem_nil, or_false] at hd
    rcases hd with e | e | e | e | e
    · exact ⟨.more, e⟩
    · exact ⟨.more, e⟩
    · exact ⟨.least, e⟩
    · exact ⟨.least, e⟩
    · exact ⟨.null, e⟩
  obtain ⟨j, x2, e2, j1, b2⟩ := e_bit b1 (m := k) (by omega) (by omega) (by omega)
  have hj : j < k := by omega
  obtain ⟨ρ', f, zs, rows, v6, rfl, hv, hz, hlen, hrow⟩ := forM_inv (t := .sl 6) (body := y1__law_strand)
    (I := fun i ρ => ∃ (zs : List D) (rows : List (List Int)) (v6 : SV), ρ = [.own true zs, .val (.int n), .val (.int M), .val (.int k), .val (.str g.s), .own false (rows.map rowD), v6] ∧ v6.isIo = false ∧ Bowl (b + 2 + 9 * i) zs ∧ rows.length = i ∧ ∀ r ∈ rows, r.length = n ∧ small M r)
    ((List.range (1 + j)).map fun (k : Nat) => D.int k) 0 [.own true x2, .val (.int n), .val (.int M), .val (.int k), .val (.str g.s), .own false [], .un] ⟨x2, [], .un, rfl, rfl, by simpa using b2, rfl, by simp⟩ (fun d hd i ρ i0 i1 hI => by
      obtain ⟨zs, rows, v6, rfl, hv, hz, hl, hr⟩ := hI
      rw [List.length_map, List.length_range] at i1
      have hsz : rows.length < sizeLine := by rw [sizeLine_eq]; omega
      obtain ⟨q, y1, f1, q1, c1⟩ := e_bit hz (m := 8) (by decide) (by decide) (by omega)
      by_cases hq : 0 < q
      · obtain ⟨r, y2, f2, lr, sr, c2⟩ := e_line c1 (n := n) hM hM2 (by omega)
        refine ⟨[.own true y2, .val (.int n), .val (.int M), .val (.int k), .val (.str g.s), .own false ((rows ++ [r]).map rowD), .val d], ?_, y2, rows ++ [r], .val d, rfl, rfl, c2.mono (by omega), by simp [hl], ?_⟩
        · simp [turnF, y1__law_strand, hv, f1, hq, f2, hsz]
        · intro z hz
          rcases List.mem_append.mp hz with hz | hz
          · exact hr z hz
          · rw [List.mem_singleton.mp hz]; exact ⟨lr, sr⟩
      · refine ⟨[.own true y1, .val (.int n), .val (.int M), .val (.int k), .val (.str g.s), .own false ((rows ++ [List.replicate n 0]).map rowD), .val d], ?_, y1, rows ++ [List.replicate n 0], .val d, rfl, rfl, c1.mono (by omega), by simp [hl], ?_⟩
        · simp [turnF, y1__law_strand, hv, f1, hq, tupD_of, sizeLine_eq, mul_zero (by omega : n ≤ 1000)]
          rw [sizeLine_eq] at hsz
          simp [hsz]
        · intro z hz
          rcases List.mem_append.mp hz with hz | hz
          · exact hr z hz
          · rw [List.mem_singleton.mp hz]
            refine ⟨by simp, fun x hx => ?_⟩
            rw [List.eq_of_mem_replicate hx]
            omega)
  rw [List.length_map, List.length_range, Nat.zero_add] at hz hlen
  refine ⟨⟨g, rows⟩, zs, ?_, ⟨fun e => ?_, ?_, hrow⟩, hz.mono (by omega)⟩
  · have rn := range1_of (i := (1 + (j : Int))) (by omega) (by omega)
    rw [show (1 + (j : Int)).toNat = 1 + j by omega] at rn
    unfold m__law_strand b__law_strand f1__law_strand runI
    simp [e1, e2, lstD_of, sizeLine_eq, rn, f, tupD_of, sD]
  · have e' : rows = [] := e
    rw [e'] at hlen; simp at hlen; omega
  · show rows.length ≤ k
    omega
theorem pack_core0 {xs x1 x2 x3 x4 L fs ys : List D} {n m j c : Int} (e1 : m__law_bit (.own true xs) [.int m] = .ok (.int j) (.own true x1)) (rn : range1D [.int (1 + j)] = .ok L)
    (eL : lcM [5] (.sl 5) tYesM e1__law_pack L [] [.own true x1, .val (.int n), .val (.int m), .un, .un, .un, .un, .un, .un, .un] = .ok fs [.own true x2, .val (.int n), .val (.int m), .un, .un, .un, .un, .un, .un, .un])
    (e2 : m__law_bit (.own true x2) [.int 2] = .ok (.int c) (.own true x3)) (hc : ¬ c = 0) (e3 : m__law_dealt (.own true x3) [.lst fs] = .ok (.lst ys) (.own true x4)) :
    m__law_pack (.own true xs) [.int n, .int m] = .ok (.tup ys) (.own true x4) := by
  unfold m__law_pack b__law_pack q1__law_pack runI
  simp [e1, rn, eL, e2, hc, e3]
def negr (r : List Int) : List Int := r.map fun x => 0 - x
theorem pack_core1 {xs x1 x2 x3 x4 x5 x6 x7 L fs ys : List D} {n m j lf k : Int} {g : Sg} {s : Strand} {z : D} {fl : List D} (hfl : s.rows.map (fun r => rowD (negr r)) = fl) (e1 : m__law_bit (.own true xs) [.int m] = .ok (.int j) (.own true x1)) (rn : range1D [.int (1 + j)] = .ok L)
    (eL : lcM [5] (.sl 5) tYesM e1__law_pack L [] [.own true x1, .val (.int n), .val (.int m), .un, .un, .un, .un, .un, .un, .un] = .ok fs [.own true x2, .val (.int n), .val (.int m), .un, .un, .un, .un, .un, .un, .un])
    (e2 : m__law_bit (.own true x2) [.int 2] = .ok (.int 0) (.own true x3))
    (eP : mPeek 3 (mIo m__law_pick 1 0 (mCons (mVar 3) mNil)) [.own true x3, .val (.int n), .val (.int m), .own false fs, .un, .un, .un, .un, .un, .un] = .ok (sD s) [.own true x4, .val (.int n), .val (.int m), .own false fs, .un, .un, .un, .un, .un, .un])
    (hlen : s.rows.length ≤ 100) (hrow : ∀ r ∈ s.rows, r.length ≤ 100) (hfs : fs.length < 1000)
    (e4 : m__law_pick (.own true x4) [.lst [.str (Str.ofString "more"), .str (Str.ofString "least"), .str s.g.s]] = .ok (.str g.s) (.own true x5))
    (hl : lenD [.tup fl] = .ok (.int lf)) (e5 : m__law_bit (.own true x5) [.int lf] = .ok (.int k) (.own true x6))
    (hz : sliceD (.tup fl) none (some (1 + k)) = .ok z)
    (e6 : m__law_dealt (.own true x6) [.lst (fs ++ [.tup [.str g.s, z]])] = .ok (.lst ys) (.own true x7)) :
    m__law_pack (.own true xs) [.int n, .int m] = .ok (.tup ys) (.own true x7) := by
  have hI : ∀ (r : List Int), r.length ≤ 100 → q2__law_pack [.own true x4, .val (.int n), .val (.int m), .own false fs, .un, .un, .val (.str s.g.s), .val (.tup (s.rows.map rowD)), .val (rowD r), .un] = .ok ((negr r).map .int) [.own true x4, .val (.int n), .val (.int m), .own false fs, .un, .un, .val (.str s.g.s), .val (.tup (s.rows.map rowD)), .val (rowD r), .un] := fun r hr => by
    unfold q2__law_pack
    simp
    rw [lcM_map D.int r (fun x => .int (0 - x)) rfl (Nat.le_trans hr (by decide)) fun x hx => by simp [turnM, e2__law_pack]]
    simp [negr]
  have hO : q3__law_pack [.own true x4, .val (.int n), .val (.int m), .own false fs, .un, .un, .val (.str s.g.s), .val (.tup (s.rows.map rowD)), .un, .un] = .ok (s.rows.map fun r => rowD (negr r)) [.own true x4, .val (.int n), .val (.int m), .own false fs, .un, .un, .val (.str s.g.s), .val (.tup (s.rows.map rowD)), .un, .un] := by
    unfold q3__law_pack
    simp
    rw [lcM_map rowD s.rows (fun r => rowD (negr r)) rfl (Nat.le_trans hlen (by decide)) fun r hr => by
      have tt : tupleD [.lst ((negr r).map .int)] = .ok (rowD (negr r)) := rfl
      simp [-op_tupleL, turnM, e3__law_pack, hI r (hrow r hr), tt]]
    simp
  have hsz : fs.length < 16777216 := by omega
  unfold m__law_pack b__law_pack q1__law_pack runI
  rw [hfl] at hO
  simp only [sD] at eP
  simp [-op_lenT, e1, rn, eL, e2, eP, hO, e4, hl, e5, hz, e6, lstD_of, tupD_of, sizeLine_eq, hsz]
theorem strands_of {p : Strand → Prop} : ∀ {ys : List D}, (∀ y ∈ ys, ∃ s, y = sD s ∧ p s) → ∃ ss : List Strand, ys = ss.map sD ∧ ∀ s ∈ ss, p s
  | [], _ => ⟨[], rfl, by simp⟩
  | y :: ys, h => by
    obtain ⟨k, e, q⟩ := h y (List.mem_cons_self ..)
    obtain ⟨ks, e2, q2⟩ := strands_of fun z hz => h z (List.mem_cons_of_mem _ hz)
    exact ⟨k :: ks, by rw [e, e2]; rfl, fun z hz => by
      rcases List.mem_cons.mp hz with e | e
      · rw [e]; exact q
      · exact q2 z e⟩
theorem noL_rows : ∀ rs : List (List Int), noLs (rs.map rowD) = true
  | [] => rfl
  | r :: rs => by
    rw [List.map_cons, noLs, noL_rows rs, Bool.and_true]
    unfold rowD
    rw [noL]
    induction r with
    | nil => rfl
    | cons x r ih => rw [List.map_cons, noLs, noL, ih]; rfl
theorem noL_sD (s : Strand) : noL (sD s) = true := by
  unfold sD
  rw [noL, noLs, noL, noLs, noL, noL_rows]; rfl
theorem peek_core {x3 x4 fs : List D} {n m : SV} {s : Strand} (hn : okI n n) (hm : okI m m) (h : Bowl 1000000 x4) (e : m__law_pick (.own true x3) [.lst fs] = .ok (sD s) (.own true x4)) :
    mPeek 3 (mIo m__law_pick 1 0 (mCons (mVar 3) mNil)) [.own true x3, n, m, .own false fs, .un, .un, .un, .un, .un, .un] = .ok (sD s) [.own true x4, n, m, .own false fs, .un, .un, .un, .un, .un, .un] := by
  obtain ⟨a, b, c, rfl, _⟩ := h
  refine (ap_Peek (d := sD s) (xs := fs) (ρ' := [.own true [.int a, .int b, .int c], n, m, .val (.lst fs), .un, .un, .un, .un, .un, .un]) rfl ?_ (noL_sD s) rfl ?_).trans rfl
  · simp [e]
  · refine ⟨.inr rfl, .inr hn, .inr hm, .inl rfl, .inr trivial, .inr trivial, .inr trivial, .inr trivial, .inr trivial, .inr trivial, trivial⟩
theorem Drawn.neg {n k : Nat} {s : Strand} {g : Sg} (h : Drawn n 2 k s) {j : Nat} (hj : 1 ≤ j) : Drawn n 2 k ⟨g, (s.rows.map negr).take j⟩ := by
  have l0 := List.length_pos_iff.mpr h.ne
  refine ⟨fun e => ?_, ?_, fun r hr => ?_⟩
  · have : ((s.rows.map negr).take j).length = 0 := by rw [show (s.rows.map negr).take j = [] from e]; rfl
    rw [List.length_take, List.length_map] at this
    omega
  · show ((s.rows.map negr).take j).length ≤ k
    rw [List.length_take, List.length_map]
    have := h.le
    omega
  · obtain ⟨q, hq, rfl⟩ := List.mem_map.mp (List.mem_of_mem_take hr)
    obtain ⟨l, b⟩ := h.row q hq
    refine ⟨by unfold negr; rw [List.length_map]; exact l, fun x hx => ?_⟩
    obtain ⟨y, hy, rfl⟩ := List.mem_map.mp hx
    have := b y hy
    omega
theorem cut_take1 {xs : List D} {k : Nat} : Mr.cutD xs none (some ((1 : Int) + k)) = xs.take (1 + k) := by
  rw [show (1 : Int) + (k : Int) = ((1 + k : Nat) : Int) by omega, cut_take]
theorem draw_strands {xs : List D} {b n c : Nat} {m : SV} (h : Bowl b xs) (h1 : 1 ≤ n) (h4 : n ≤ 4) (hc : c ≤ 20) (hb : b < 700000) :
    ∃ (ss : List Strand) (ys : List D), lcM [5] (.sl 5) tYesM e1__law_pack ((List.range c).map fun (k : Nat) => D.int k) [] [.own true xs, .val (.int n), m, .un, .un, .un, .un, .un, .un, .un] = .ok (ss.map sD) [.own true ys, .val (.int n), m, .un, .un, .un, .un, .un, .un, .un] ∧
      ss.length = c ∧ (∀ s ∈ ss, Drawn n 2 3 s) ∧ Bowl (b + 56 * c) ys := by
  obtain ⟨ys, ρ', e, ⟨zs, rfl, hz⟩, l, p⟩ := lcM_run2 (vs := [5]) (t := .sl 5) (el := e1__law_pack) (I := fun j ρ => ∃ ys, ρ = [.own true ys, .val (.int n), m, .un, .un, .un, .un, .un, .un, .un] ∧ Bowl (b + 56 * j) ys) (P := fun y => ∃ s, y = sD s ∧ Drawn n 2 3 s)
    ((List.range c).map fun (k : Nat) => D.int k) [] 0 [.own true xs, .val (.int n), m, .un, .un, .un, .un, .un, .un, .un] (by simp [sizeLine_eq]; omega) ⟨xs, rfl, by simpa using h⟩ (fun d hd j ρ h0 h1' hI => by
      obtain ⟨zs, rfl, hz⟩ := hI
      rw [List.length_map, List.length_range] at h1'
      refine ⟨rfl, ?_⟩
      obtain ⟨s, ys, e, ds, hy⟩ := e_strand (M := 2) (k := 3) hz h1 h4 (by decide) (by decide) (by decide) (by decide) (by omega)
      have e' : m__law_strand (.own true zs) [.int n, .int 2, .int 3] = .ok (sD s) (.own true ys) := e
      refine ⟨sD s, [.own true ys, .val (.int n), m, .un, .un, .un, .un, .un, .un, .un], ?_, ⟨ys, rfl, by rw [show b + 56 * (j + 1) = b + 56 * j + 56 by omega]; exact hy⟩, s, rfl, ds⟩
      simp [turnM, e1__law_pack, e'])
  obtain ⟨ks, rfl, hk⟩ := strands_of p
  rw [List.length_map, List.length_map, List.length_range] at l
  rw [List.length_map, List.length_range, Nat.zero_add] at hz
  exact ⟨ks, zs, by simpa using e, l, hk, hz⟩
theorem e_pack {xs : List D} {b n m : Nat} (h : Bowl b xs) (h1 : 1 ≤ n) (h4 : n ≤ 4) (hm : 1 ≤ m) (hm9 : m ≤ 9) (hb : b < 600000) :
    ∃ (ss : List Strand) (ys : List D), m__law_pack (.own true xs) [.int n, .int m] = .ok (.tup (ss.map sD)) (.own true ys) ∧ ss ≠ [] ∧ ss.length ≤ m + 1 ∧ (∀ s ∈ ss, Drawn n 2 3 s) ∧ Bowl (b + 800) ys := by
  obtain ⟨j, x1, e1, j1, b1⟩ := e_bit h (m := m) (by omega) (by omega) (by omega)
  have rn := range1_of (i := (1 + (j : Int))) (by omega) (by omega)
  rw [show (1 + (j : Int)).toNat = 1 + j by omega] at rn
  obtain ⟨ss, x2, eL, lss, hss, b2⟩ := draw_strands (m := .val (.int m)) (c := 1 + j) b1 h1 h4 (by omega) (by omega)
  have nes : ss ≠ [] := fun e => by rw [e] at lss; simp at lss; omega
  obtain ⟨c, x3, e2, c1, b3⟩ := e_bit b2 (m := 2) (by decide) (by decide) (by omega)
  by_cases hc : c = 0
  · subst hc
    obtain ⟨d, x4, hd, ep, b4⟩ := (e_pickL (ds := ss.map sD) b3 (by simpa using nes) (by rw [List.length_map]; omega) (by omega))
    obtain ⟨s, hs, rfl⟩ := List.mem_map.mp hd
    have ds := hss s hs
    have eP := peek_core (n := .val (.int n)) (m := .val (.int m)) rfl rfl (b4.mono (by omega)) ep
    obtain ⟨d2, x5, hd2, e4, b5⟩ := (e_pickL (ds := [.str (Str.ofString "more"), .str (Str.ofString "least"), .str s.g.s]) b4 (by simp) (by simp) (by omega))
    obtain ⟨g, rfl⟩ : ∃ g : Sg, d2 = .str g.s := by
      simp only [List.mem_cons, List.not_mem_nil, or_false] at hd2
      rcases hd2 with e | e | e
      · exact ⟨.more, e⟩
      · exact ⟨.least, e⟩
      · exact ⟨s.g, e⟩
    obtain ⟨fl, hfl⟩ : ∃ fl, s.rows.map (fun r => rowD (negr r)) = fl := ⟨_, rfl⟩
    have lfl : fl.length = s.rows.length := by rw [← hfl, List.length_map]
    have l0 := List.length_pos_iff.mpr ds.ne
    have l3 := ds.le
    obtain ⟨k, x6, e5, k1, b6⟩ := e_bit b5 (m := fl.length) (by omega) (by omega) (by omega)
    have hz : sliceD (.tup fl) none (some (1 + (k : Int))) = .ok (.tup (fl.take (1 + k))) := by
      show FR.ok (D.tup (Mr.cutD fl none (some (1 + (k : Int))))) = _
      rw [cut_take1]
    have hnew : D.tup [.str g.s, .tup (fl.take (1 + k))] = sD ⟨g, (s.rows.map negr).take (1 + k)⟩ := by
      unfold sD
      rw [← hfl]
      show _ = D.tup [.str g.s, .tup (((s.rows.map negr).take (1 + k)).map rowD)]
      rw [List.map_take, List.map_map]
      rfl
    obtain ⟨ys, x7, e6, p, b7⟩ := (e_dealtL (ds := ss.map sD ++ [.tup [.str g.s, .tup (fl.take (1 + k))]]) b6 (by simp; omega) (by omega))
    rw [hnew, show ss.map sD ++ [sD ⟨g, (s.rows.map negr).take (1 + k)⟩] = (ss ++ [Strand.mk g ((s.rows.map negr).take (1 + k))]).map sD by rw [List.map_append]; rfl] at p
    obtain ⟨ss', rfl, pp⟩ := perm_map p
    have lp := pp.length_eq
    rw [List.length_append, List.length_singleton] at lp
    refine ⟨ss', x7, pack_core1 hfl e1 rn eL e2 eP (by omega) (fun r hr => by rw [(ds.row r hr).1]; omega) (by rw [List.length_map]; omega) e4 op_lenT e5 hz e6, fun e => ?_, by omega, fun z hz => ?_, b7.mono (by simp; omega)⟩
    · rw [e] at lp; simp at lp
    · rcases List.mem_append.mp (pp.mem_iff.mp hz) with q | q
      · exact hss z q
      · rw [List.mem_singleton.mp q]; exact ds.neg (by omega)
  · obtain ⟨ys, x4, e3, p, b4⟩ := (e_dealtL (ds := ss.map sD) b3 (by simp; omega) (by omega))
    obtain ⟨ss', rfl, pp⟩ := perm_map p
    have lp := pp.length_eq
    refine ⟨ss', x4, pack_core0 e1 rn eL e2 (by omega) e3, fun e => ?_, by omega, fun z hz => hss z (pp.mem_iff.mp hz), b4.mono (by simp; omega)⟩
    rw [e] at lp; simp at lp; omega
end Pm
namespace Pm
open PySem PySem.Spec PyProof.Rows L2 Mr
end Pm
namespace Pm
open PySem PySem.Spec PyProof.Rows L2 Mr
theorem Drawn.ok {n M k : Nat} {s : Strand} (h : Drawn n M k s) (hM : M < 1000) (hk : k ≤ 6) : StrandOk n s :=
  ⟨h.ne, by have := h.le; omega, fun r hr => ⟨(h.row r hr).1, fun x hx => by have := (h.row r hr).2 x hx; omega⟩⟩
/-- a spot of the law -/
structure Spot (n : Nat) (p : List Int) : Prop where
  len : p.length = n
  sm : ∀ x ∈ p, -2 ≤ x ∧ x ≤ 2
theorem Spot.sz {n : Nat} {p : List Int} (h : Spot n p) : ∀ x ∈ p, Sz 2 x := fun x hx => by have := h.sm x hx; unfold Sz; omega
theorem Spot.pt {n : Nat} {p : List Int} (h : Spot n p) : PtOk n p := ⟨h.len, fun x hx => (h.sz x hx).mono (by decide)⟩
end Pm
namespace Pm
open PySem PySem.Spec PyProof.Rows L2 Mr
section
variable {n : Nat} {ss ts : List Strand} {m : List D → FR D}
theorem cls_sys {f : Str} : clsD [(Str.ofString "System", m)] (sysD n ss) = noxF (m [sysD n ss]) := id rfl
theorem fld_strands : fldD ["System"] "own_strands" (sysD n ss) = .ok (.tup (ss.map sD)) := id rfl
theorem c_strands : clsD [(Str.ofString "System", m_System_strands)] (sysD n ss) = .ok (.tup (ss.map sD)) := by
  have e : m_System_strands [sysD n ss] = .ok (.tup (ss.map sD)) := by
    unfold m_System_strands b_System_strands runF
    simp [fld_strands]
  rw [cls_sys (f := Str.empty), e]; rfl
theorem e_within {i a b : Int} (h : isI i = true) : m_is_integer_within [.int i, .int a, .int b] = .ok (.bl (decide (a ≤ i) && decide (i ≤ b))) := by
  unfold m_is_integer_within b_is_integer_within runF
  by_cases c : a ≤ i <;> simp [e_is_integer', h, c]
theorem isI_small {i : Int} (h : -1000 ≤ i) (h' : i ≤ 1000) : isI i = true := isI_sz ((Sz.of (a := 10) (by omega) (by omega)).mono (by decide))
def hgt (s : Strand) : Int := if s.g = .null then s.rows.length else 0
end
end Pm
namespace Pm
open PySem PySem.Spec PyProof.Rows L2 Mr
@[simp] theorem fld_width {l : Lp} : fldD ["Loop"] "own_width" (lpD l) = .ok (.int ((l.n : Int) + 1)) := id rfl
@[simp] theorem fld_mat {l : Lp} : fldD ["Loop"] "own_matrix" (lpD l) = .ok (rowsD l.mat) := id rfl
@[simp] theorem fld_names {l : Lp} : fldD ["Loop"] "own_names" (lpD l) = .ok (strsT l.names) := id rfl
@[simp] theorem fld_steps {l : Lp} : fldD ["Loop"] "own_steps" (lpD l) = .ok (rowsD l.steps) := id rfl
@[simp] theorem fld_tests {l : Lp} : fldD ["Loop"] "own_tests" (lpD l) = .ok (tstsD l.tests) := id rfl
@[simp] theorem isi_lpD {l : Lp} : isiOD (Str.ofString "Loop") (lpD l) = .ok (.bl true) := id rfl
structure StartOk (n : Nat) (X : List Int) : Prop where
  len : X.length = n + 1
  pos : ∀ x, X[0]? = some x → 1 ≤ x
  sz : ∀ x ∈ X, Sz 600 x
theorem StartOk.at0 {n : Nat} {X : List Int} (h : StartOk n X) : ∃ x r, X = x :: r ∧ 1 ≤ x ∧ r.length = n := by
  cases X with
  | nil => have := h.len; simp at this
  | cons x r => exact ⟨x, r, rfl, h.pos x rfl, by have := h.len; simpa using this⟩
def Lp.next (l : Lp) (X : List Int) : List Int := l.mat.map fun r => dot r X
@[simp] theorem next_len {l : Lp} {X : List Int} : (l.next X).length = l.mat.length := by unfold Lp.next; exact List.length_map _
def dictD (l : Lp) : D := .dct [.inr (Str.ofString "words"), .inr (Str.ofString "moves"), .inr (Str.ofString "checks")] [strsT l.names, rowsD l.steps, tstsD l.tests]
@[simp] theorem get_words {l : Lp} : dgetD (dictD l) (.str (Str.ofString "words")) = .ok (strsT l.names) := id rfl
@[simp] theorem get_moves {l : Lp} : dgetD (dictD l) (.str (Str.ofString "moves")) = .ok (rowsD l.steps) := id rfl
@[simp] theorem get_checks {l : Lp} : dgetD (dictD l) (.str (Str.ofString "checks")) = .ok (tstsD l.tests) := id rfl
end Pm
namespace Pm
open PySem PySem.Spec PyProof.Rows L2 Mr
/-- a loop over items by their places -/
theorem forM_at {t : Tg} {body : M Fl} {I : Nat → Ro → Prop} : ∀ (ds : List D) (n : Nat) (ρ : Ro), I n ρ → (∀ i d ρ, ds[i]? = some d → I (n + i) ρ → ∃ ρ', turnF t body ρ d = .ok .nx ρ' ∧ I (n + i + 1) ρ') → ∃ ρ', forM t body ds ρ = .ok .nx ρ' ∧ I (n + ds.length) ρ'
  | [], n, ρ, h, _ => ⟨ρ, by simp, h⟩
  | d :: ds, n, ρ, h, s => by
    obtain ⟨ρ1, e1, h1⟩ := s 0 d ρ rfl h
    obtain ⟨ρ2, e2, h2⟩ := forM_at ds (n + 1) ρ1 h1 fun i d ρ hd hI => by
      obtain ⟨ρ', e, h'⟩ := s (i + 1) d ρ hd (by rw [show n + (i + 1) = n + 1 + i by omega]; exact hI)
      exact ⟨ρ', e, by rw [show n + 1 + i + 1 = n + (i + 1) + 1 by omega]; exact h'⟩
    refine ⟨ρ2, ?_, by rw [List.length_cons, show n + (ds.length + 1) = n + 1 + ds.length by omega]; exact h2⟩
    have e1 : ((putT t d ρ).bind fun _ ρ => body ρ) = .ok .nx ρ1 := e1
    rw [ap_forC]
    cases ep : putT t d ρ with
    | ok u ρ' =>
      rw [ep] at e1
      have e1 : body ρ' = .ok .nx ρ1 := e1
      show ((body ρ').bind _) = _
      rw [e1]
      exact e2
    | exc x ρ' => rw [ep] at e1; cases e1
    | stuck => rw [ep] at e1; cases e1
/-- .. over range(n) -/
theorem forM_range {t : Tg} {body : M Fl} {I : Nat → Ro → Prop} (n : Nat) (ρ : Ro) (h0 : I 0 ρ) (h : ∀ i ρ, i < n → I i ρ → ∃ ρ', turnF t body ρ (.int (i : Nat)) = .ok .nx ρ' ∧ I (i + 1) ρ') : ∃ ρ', forM t body ((List.range n).map fun (k : Nat) => D.int k) ρ = .ok .nx ρ' ∧ I n ρ' := by
  obtain ⟨ρ', e, h'⟩ := forM_at (t := t) (body := body) (I := I) ((List.range n).map fun (k : Nat) => D.int k) 0 ρ h0 fun i d ρ hd hI => by
    rw [List.getElem?_map] at hd
    obtain ⟨k, hk, rfl⟩ := Option.map_eq_some_iff.mp hd
    obtain ⟨hl, e⟩ := List.getElem?_eq_some_iff.mp hk
    rw [List.getElem_range] at e
    subst e
    rw [List.length_range] at hl
    rw [Nat.zero_add] at hI
    obtain ⟨ρ', e, h'⟩ := h i ρ hl hI
    exact ⟨ρ', e, by rw [Nat.zero_add]; exact h'⟩
  refine ⟨ρ', e, ?_⟩
  rw [List.length_map, List.length_range, Nat.zero_add] at h'
  exact h'
end Pm
namespace Pm
open PySem PySem.Spec PyProof.Rows L2 Mr
section
variable {n : Nat} {ss ts : List Strand} {m : List D → FR D}
theorem okD_sD' (s : Strand) (k : Nat) : okD (k + 3) (sD s) = true := by
  unfold sD
  simp
  exact okDs_all fun z hz => by
    obtain ⟨r, _, rfl⟩ := List.mem_map.mp hz
    simp
theorem okDs_pack (k : Nat) : okDs (k + 3) (ss.map sD) = true := okDs_all fun z hz => by
  obtain ⟨s, _, rfl⟩ := List.mem_map.mp hz
  exact okD_sD' s k
theorem ok_pack : okD 12 (.tup (ss.map sD)) = true := by
  show okDs 11 _ = true
  exact okDs_pack 8
end
end Pm
namespace Pm
open PySem PySem.Spec PyProof.Rows L2 Mr
section
variable {n k : Nat} {ss ts : List Strand}
/-- heights of strands -/
def Hts : List Strand → List Int → Prop
  | [], [] => True
  | s :: ss, h :: hs => (hgt s ≤ h ∧ h ≤ s.rows.length) ∧ Hts ss hs
  | _, _ => False
theorem Hts.len : ∀ {ss : List Strand} {hs : List Int}, Hts ss hs → hs.length = ss.length
  | [], [], _ => rfl
  | _ :: ss, _ :: hs, h => by rw [List.length_cons, List.length_cons, Hts.len h.2]
end
end Pm
namespace Pm
open PySem PySem.Spec PyProof.Rows L2 Mr
def pairD (p : Strand × Int) : D := .tup [sD p.1, .int p.2]
section
variable {n : Nat} {ss ts : List Strand} {hs : List Int}
theorem forM_t25 {t : Tg} {body : M Fl} {ρ ρ' : Ro} {d : D} {ds : List D} (h : turnF t body ρ d = .ok .nx ρ') : forM t body (d :: ds) ρ = forM t body ds ρ' := by
  rw [ap_forC]
  unfold turnF at h
  cases e : putT t d ρ with
  | ok u ρ1 =>
    rw [e, R.bind_ok] at h
    rw [R.bind_ok, h, R.bind_ok]
  | exc x ρ1 => rw [e] at h; cases h
  | stuck => rw [e] at h; cases h
end
end Pm
namespace Pm
open PySem PySem.Spec PyProof.Rows L2 Mr
section
variable {n : Nat} {ss ts : List Strand} {hs : List Int} {m : List D → FR D}
theorem add_tupS {xs ys : List D} (h : xs.length + ys.length ≤ 1000) : addD (.tup xs) (.tup ys) = .ok (.tup (xs ++ ys)) := if_pos (by rw [sizeLine_eq]; omega)
end
end Pm
namespace Pm
open PySem PySem.Spec PyProof.Rows L2 Mr
end Pm
namespace Pm
open PySem PySem.Spec PyProof.Rows L2 Mr
mutual
/-- plain data: no objects, empty dicts alone -/
def plD : D → Bool
  | .non => true
  | .bl _ => true
  | .int _ => true
  | .str _ => true
  | .tup xs => decide (xs.length ≤ 1000) && plDs xs
  | .lst xs => decide (xs.length ≤ 1000) && plDs xs
  | .dct [] [] => true
  | _ => false
def plDs : List D → Bool
  | [] => true
  | d :: ds => plD d && plDs ds
end
theorem plDs_all : ∀ {xs : List D}, plDs xs = true ↔ ∀ x ∈ xs, plD x = true
  | [] => by simp [plDs]
  | d :: ds => by
    rw [plDs, Bool.and_eq_true, plDs_all]
    simp
/-- the cases of plain data -/
theorem plD_cases {P : D → Prop} {d : D} (h : plD d = true) (h1 : P .non) (h2 : ∀ b, P (.bl b)) (h3 : ∀ i, P (.int i)) (h4 : ∀ s, P (.str s)) (h5 : ∀ xs, xs.length ≤ 1000 → (∀ x ∈ xs, plD x = true) → P (.tup xs)) (h6 : ∀ xs, xs.length ≤ 1000 → (∀ x ∈ xs, plD x = true) → P (.lst xs)) (h7 : P (.dct [] [])) : P d := by
  cases d with
  | non => exact h1
  | bl b => exact h2 b
  | int i => exact h3 i
  | str s => exact h4 s
  | tup xs =>
    rw [plD, Bool.and_eq_true, decide_eq_true_eq, plDs_all] at h
    exact h5 xs h.1 h.2
  | lst xs =>
    rw [plD, Bool.and_eq_true, decide_eq_true_eq, plDs_all] at h
    exact h6 xs h.1 h.2
  | dct ks ds =>
    match ks, ds, h with
    | [], [], _ => exact h7
  | _ => simp [plD] at h
def intB : D → Bool
  | .int i => isI i
  | _ => false
theorem g_is_integer {d : D} (h : plD d = true) : m_is_integer [d] = .ok (.bl (intB d)) := by
  refine plD_cases (P := fun d => m_is_integer [d] = .ok (.bl (intB d))) h ?_ ?_ ?_ ?_ ?_ ?_ ?_
  · simp [m_is_integer, b_is_integer, runF, intB]
  · intro b; simp [m_is_integer, b_is_integer, runF, intB]
  · intro i; exact e_is_integer'
  · intro s; simp [m_is_integer, b_is_integer, runF, intB]
  · intro xs _ _; simp [m_is_integer, b_is_integer, runF, intB]
  · intro xs _ _; simp [m_is_integer, b_is_integer, runF, intB]
  · simp [m_is_integer, b_is_integer, runF, intB]
def rowB : D → Bool
  | .tup xs => decide (1 ≤ xs.length) && decide (xs.length ≤ 4) && xs.all intB
  | _ => false
theorem lcM_same {vs : List Nat} {t : Tg} {el : M D} {ρ : Ro} (xs : List D) (F : D → D) (hp : plainR ρ vs = true) (hl : xs.length ≤ 1000000) (h : ∀ x ∈ xs, turnM vs t el ρ x = .ok (F x) ρ) : lcM vs t tYesM el xs [] ρ = .ok (xs.map F) ρ := by
  have := lcM_map (fun d : D => d) xs F hp (by rw [sizeLine_eq]; omega) h
  rwa [List.map_id'] at this
theorem g_is_row {d : D} (h : plD d = true) : m_is_row [d] = .ok (.bl (rowB d)) := by
  refine plD_cases (P := fun d => m_is_row [d] = .ok (.bl (rowB d))) h ?_ ?_ ?_ ?_ ?_ ?_ ?_
  · simp [m_is_row, b_is_row, runF, rowB]
  · intro b; simp [m_is_row, b_is_row, runF, rowB]
  · intro i; simp [m_is_row, b_is_row, runF, rowB]
  · intro s; simp [m_is_row, b_is_row, runF, rowB]
  · intro xs hl hx
    have q := lcM_same (vs := [1]) (t := .sl 1) (el := e1_is_row) (ρ := [.val (.tup xs), .un]) xs (fun d => .bl (intB d)) rfl (by omega) fun x hm => by
      simp [turnM, e1_is_row, g_is_integer (hx x hm)]
    have w : c_WIDEST = 4 := rfl
    unfold m_is_row b_is_row q1_is_row runF rowB
    by_cases a : 1 ≤ xs.length
    · have a' : (1 : Int) ≤ xs.length := by omega
      by_cases b : xs.length ≤ 4
      · have b' : (xs.length : Int) ≤ 4 := by omega
        simp [a', b', w, q, a, b]
      · have b' : ¬ (xs.length : Int) ≤ 4 := by omega
        simp [a', b', w, a, b]
    · have a' : ¬ (1 : Int) ≤ xs.length := by omega
      simp [a', a]
  · intro xs _ _; simp [m_is_row, b_is_row, runF, rowB]
  · simp [m_is_row, b_is_row, runF, rowB]
def betB (m : Int) : D → Bool
  | .int i => decide (-m ≤ i) && decide (i ≤ m)
  | _ => false
def rowWB (w m : Int) : D → Bool
  | .tup xs => rowB (.tup xs) && (decide ((xs.length : Int) = w) && xs.all (betB m))
  | _ => false
theorem g_is_row_within {d : D} {w m : Int} (h : plD d = true) : m_is_row_within [d, .int w, .int m] = .ok (.bl (rowWB w m d)) := by
  have e := g_is_row h
  unfold m_is_row_within b_is_row_within runF
  cases hr : rowB d with
  | false =>
    rw [hr] at e
    simp [e]
    cases d with
    | tup xs => simp [rowWB, hr]
    | _ => rfl
  | true =>
    rw [hr] at e
    cases d with
    | tup xs =>
      rw [rowB, Bool.and_eq_true, Bool.and_eq_true, decide_eq_true_eq, decide_eq_true_eq, List.all_eq_true] at hr
      obtain ⟨⟨h1, h4⟩, ha⟩ := hr
      have q := lcM_same (vs := [3]) (t := .sl 3) (el := e1_is_row_within) (ρ := [.val (.tup xs), .val (.int w), .val (.int m), .un]) xs (fun d => .bl (betB m d)) rfl (by omega) fun x hm => by
        have := ha x hm
        cases x with
        | int i => by_cases z : -m ≤ i <;> simp [turnM, e1_is_row_within, betB, z]
        | _ => simp [intB] at this
      have hr : rowB (.tup xs) = true := by
        rw [rowB, Bool.and_eq_true, Bool.and_eq_true, decide_eq_true_eq, decide_eq_true_eq, List.all_eq_true]; exact ⟨⟨h1, h4⟩, ha⟩
      by_cases z : (xs.length : Int) = w
      · simp [e, z, q1_is_row_within, q, rowWB, hr]
      · simp [e, z, rowWB, hr]
    | _ => simp [rowB] at hr
def sgB (s : Str) : Bool := [D.str c_MORE, .str c_LEAST, .str c_NULL].any fun y => eqv y (.str s)
theorem g_sign (s : Str) : ninD (.str s) (.tup [.str c_MORE, .str c_LEAST, .str c_NULL]) = .ok (.bl (!sgB s)) := by
  have e : ninD (.str s) (.tup [.str c_MORE, .str c_LEAST, .str c_NULL]) = if okD 12 (.str s) = true ∧ okDs 12 [D.str c_MORE, .str c_LEAST, .str c_NULL] = true then .ok (.bl (![D.str c_MORE, .str c_LEAST, .str c_NULL].any fun y => eqv y (.str s))) else .stuck := id rfl
  rw [e, if_pos ⟨by simp, by simp⟩]
  rfl
def rowsB (w : Int) : D → Bool
  | .tup rows => decide (1 ≤ rows.length) && decide (rows.length ≤ 6) && rows.all (rowWB w c_MAX_SIZE)
  | _ => false
def strandB (w : Int) : D → Bool
  | .tup [.str s, r] => sgB s && rowsB w r
  | _ => false
theorem g_is_strand_of {d : D} {w : Int} (h : plD d = true) : m_is_strand_of [d, .int w] = .ok (.bl (strandB w d)) := by
  refine plD_cases (P := fun d => m_is_strand_of [d, .int w] = .ok (.bl (strandB w d))) h ?_ ?_ ?_ ?_ ?_ ?_ ?_
  · simp [m_is_strand_of, b_is_strand_of, runF, strandB]
  · intro b; simp [m_is_strand_of, b_is_strand_of, runF, strandB]
  · intro i; simp [m_is_strand_of, b_is_strand_of, runF, strandB]
  · intro s; simp [m_is_strand_of, b_is_strand_of, runF, strandB]
  · intro xs hl hx
    match xs, hl, hx with
    | [], _, _ => simp [m_is_strand_of, b_is_strand_of, runF, strandB]
    | [a], _, _ => simp [m_is_strand_of, b_is_strand_of, runF, strandB]
    | a :: b :: c :: r, hl, _ =>
      have z : ¬ ((r.length : Int) + 1 + 1 + 1 = 2) := by omega
      simp [m_is_strand_of, b_is_strand_of, runF, strandB, z]
    | [a, b], _, hx =>
      have ha := hx a (by simp)
      have hb := hx b (by simp)
      cases a with
      | str s =>
        have e1 := g_sign s
        have w6 : c_MAX_ROWS = 6 := rfl
        cases hs : sgB s with
        | false =>
          rw [hs] at e1
          simp [m_is_strand_of, b_is_strand_of, runF, strandB, tupD_of, sizeLine_eq, e1, hs]
        | true =>
          rw [hs] at e1
          refine plD_cases (P := fun b => m_is_strand_of [.tup [.str s, b], .int w] = .ok (.bl (strandB w (.tup [.str s, b])))) hb ?_ ?_ ?_ ?_ ?_ ?_ ?_
          · simp [m_is_strand_of, b_is_strand_of, runF, strandB, tupD_of, sizeLine_eq, e1, rowsB]
          · intro x; simp [m_is_strand_of, b_is_strand_of, runF, strandB, tupD_of, sizeLine_eq, e1, rowsB]
          · intro x; simp [m_is_strand_of, b_is_strand_of, runF, strandB, tupD_of, sizeLine_eq, e1, rowsB]
          · intro x; simp [m_is_strand_of, b_is_strand_of, runF, strandB, tupD_of, sizeLine_eq, e1, rowsB]
          · intro rs hl hr
            have q := lcM_same (vs := [4]) (t := .sl 4) (el := e1_is_strand_of) (ρ := [.val (.tup [.str s, .tup rs]), .val (.int w), .val (.str s), .val (.tup rs), .un]) rs (fun d => .bl (rowWB w c_MAX_SIZE d)) rfl (by omega) fun x hm => by
              simp [turnM, e1_is_strand_of, g_is_row_within (hr x hm)]
            by_cases a : 1 ≤ rs.length
            · have a' : (1 : Int) ≤ rs.length := by omega
              by_cases b : rs.length ≤ 6
              · have b' : (rs.length : Int) ≤ 6 := by omega
                simp [m_is_strand_of, b_is_strand_of, q1_is_strand_of, runF, strandB, tupD_of, sizeLine_eq, e1, rowsB, w6, a', b', a, b, q, hs]
              · have b' : ¬ (rs.length : Int) ≤ 6 := by omega
                simp [m_is_strand_of, b_is_strand_of, runF, strandB, tupD_of, sizeLine_eq, e1, rowsB, w6, a', b', a, b]
            · have a' : ¬ (1 : Int) ≤ rs.length := by omega
              simp [m_is_strand_of, b_is_strand_of, runF, strandB, tupD_of, sizeLine_eq, e1, rowsB, w6, a', a]
          · intro rs _ _; simp [m_is_strand_of, b_is_strand_of, runF, strandB, tupD_of, sizeLine_eq, e1, rowsB]
          · simp [m_is_strand_of, b_is_strand_of, runF, strandB, tupD_of, sizeLine_eq, e1, rowsB]
      | non => simp [m_is_strand_of, b_is_strand_of, runF, strandB]
      | bl _ => simp [m_is_strand_of, b_is_strand_of, runF, strandB]
      | int _ => simp [m_is_strand_of, b_is_strand_of, runF, strandB]
      | tup _ => simp [m_is_strand_of, b_is_strand_of, runF, strandB]
      | lst _ => simp [m_is_strand_of, b_is_strand_of, runF, strandB]
      | dct ks ds => simp [m_is_strand_of, b_is_strand_of, runF, strandB]
      | _ => simp [plD] at ha
  · intro xs _ _; simp [m_is_strand_of, b_is_strand_of, runF, strandB]
  · simp [m_is_strand_of, b_is_strand_of, runF, strandB]
def strandsB : D → Bool
  | .tup xs => decide (1 ≤ xs.length) && decide (xs.length ≤ 12) && [1, 2, 3, 4].any fun w => xs.all (strandB w)
  | _ => false
theorem g_are_strands {d : D} (h : plD d = true) : m_are_strands [d] = .ok (.bl (strandsB d)) := by
  refine plD_cases (P := fun d => m_are_strands [d] = .ok (.bl (strandsB d))) h ?_ ?_ ?_ ?_ ?_ ?_ ?_
  · simp [m_are_strands, b_are_strands, runF, strandsB]
  · intro b; simp [m_are_strands, b_are_strands, runF, strandsB]
  · intro b; simp [m_are_strands, b_are_strands, runF, strandsB]
  · intro b; simp [m_are_strands, b_are_strands, runF, strandsB]
  · intro xs hl hx
    have hI : ∀ w : Int, q1_are_strands [SV.val (.tup xs), .val (.int w), .un] = .ok (xs.map fun x => .bl (strandB w x)) [SV.val (.tup xs), .val (.int w), .un] := fun w => by
      unfold q1_are_strands
      simp
      rw [lcM_same xs (fun x => .bl (strandB w x)) rfl (by omega) fun x hm => by simp [turnM, e1_are_strands, g_is_strand_of (hx x hm)]]
      simp
    have hO := lcM_map (vs := [1]) (t := .sl 1) (el := e2_are_strands) (ρ := [SV.val (.tup xs), .un, .un]) D.int [1, 2, 3, 4] (fun w => .bl (xs.all (strandB w))) rfl (by decide) fun w hw => by
      simp [turnM, e2_are_strands, hI]
    have hr : range2D [.int 1, .int 5] = .ok (([1, 2, 3, 4] : List Int).map D.int) := rfl
    have w12 : c_MAX_STRANDS = 12 := rfl
    have w4 : c_MAX_WIDTH = 4 := rfl
    simp only [List.map_cons, List.map_nil] at hO hr
    by_cases a : 1 ≤ xs.length
    · have a' : (1 : Int) ≤ xs.length := by omega
      by_cases b : xs.length ≤ 12
      · have b' : (xs.length : Int) ≤ 12 := by omega
        have e : anyD [.lst [.bl (xs.all (strandB 1)), .bl (xs.all (strandB 2)), .bl (xs.all (strandB 3)), .bl (xs.all (strandB 4))]] = .ok (.bl ([1, 2, 3, 4].any fun w => xs.all (strandB w))) := by
          have := op_anyF (l := ([1, 2, 3, 4] : List Int)) (f := fun w => xs.all (strandB w))
          simpa using this
        unfold m_are_strands b_are_strands q2_are_strands runF strandsB
        simp [a', b', w12, w4, hr, hO, e, a, b]
      · have b' : ¬ (xs.length : Int) ≤ 12 := by omega
        unfold m_are_strands b_are_strands runF strandsB
        simp [a', b', w12, a, b]
    · have a' : ¬ (1 : Int) ≤ xs.length := by omega
      unfold m_are_strands b_are_strands runF strandsB
      simp [a', w12, a]
  · intro b _ _; simp [m_are_strands, b_are_strands, runF, strandsB]
  · simp [m_are_strands, b_are_strands, runF, strandsB]
/-- what makes no system -/
theorem g_init_bad {d : D} (h : plD d = true) (hb : strandsB d = false) {sv : SV} : m_System___init__ sv [d] = .exc (exE (Str.ofString "InvalidSystem")) sv := by
  have e := g_are_strands h
  rw [hb] at e
  unfold m_System___init__ b_System___init__ runI
  simp [e]
end Pm
namespace Pm
open PySem PySem.Spec PyProof.Rows L2 Mr
section
variable {n : Nat} {ss : List Strand}
theorem pl_row29 {r : List Int} (hl : r.length ≤ 1000) : plD (rowD r) = true := by
  unfold rowD
  rw [plD, Bool.and_eq_true, decide_eq_true_eq, plDs_all]
  refine ⟨by simpa using hl, fun x hx => ?_⟩
  obtain ⟨i, _, rfl⟩ := List.mem_map.mp hx
  rfl
theorem pl_tup {xs : List D} (hl : xs.length ≤ 1000) (h : ∀ x ∈ xs, plD x = true) : plD (.tup xs) = true := by
  rw [plD, Bool.and_eq_true, decide_eq_true_eq, plDs_all]
  exact ⟨hl, h⟩
theorem pl_lst {xs : List D} (hl : xs.length ≤ 1000) (h : ∀ x ∈ xs, plD x = true) : plD (.lst xs) = true := by
  rw [plD, Bool.and_eq_true, decide_eq_true_eq, plDs_all]
  exact ⟨hl, h⟩
theorem pl_sD {s : Strand} (h : StrandOk n s) (h4 : n ≤ 4) : plD (sD s) = true := by
  unfold sD
  refine pl_tup (by simp) fun x hx => ?_
  rcases List.mem_cons.mp hx with rfl | hx
  · rfl
  · rw [List.mem_singleton.mp hx]
    refine pl_tup (by have := h.le; simp; omega) fun y hy => ?_
    obtain ⟨r, hr, rfl⟩ := List.mem_map.mp hy
    exact pl_row29 (by rw [(h.row r hr).1]; omega)
theorem strandsB_nil : strandsB (.tup []) = false := by decide +kernel
theorem e_req0 {s : Strand} : m_require_index_k29 [sysD n [s], .int 0] = .ok .non := by
  have e : m_is_integer_within [.int 0, .int 0, .int 0] = .ok (.bl true) := e_within (isI_small (by omega) (by omega))
  unfold m_require_index_k29 b_require_index_k29 runF
  simp [fld_strands, e]
theorem without_last {s : Strand} : m_System_without_strand_k29 [sysD n [s], .int 0] = .exc (exE (Str.ofString "InvalidSystem")) := by
  have e := g_init_bad (d := .tup []) (sv := .ins true "System" [] []) rfl strandsB_nil
  have c1 : sliceD (.tup [sD s]) none (some 0) = .ok (.tup []) := by
    show FR.ok (D.tup (Mr.cutD _ _ (some ((0 : Nat) : Int)))) = _
    rw [cut_take]; rfl
  have c2 : sliceD (.tup [sD s]) (some 1) none = .ok (.tup []) := by
    show FR.ok (D.tup (Mr.cutD _ (some ((1 : Nat) : Int)) _)) = _
    rw [cut_drop]; rfl
  unfold m_System_without_strand_k29 b_System_without_strand_k29 runF
  simp [e_req0, fld_strands, c1, c2, mStar, itemsD, tupD_of, sizeLine_eq, e]
theorem forM_rt {t : Tg} {body : M Fl} {ρ ρ' : Ro} {d r : D} {ds : List D} (h : turnF t body ρ d = .ok (.rt r) ρ') : forM t body (d :: ds) ρ = .ok (.rt r) ρ' := by
  rw [ap_forC]
  unfold turnF at h
  cases e : putT t d ρ with
  | ok u ρ1 =>
    rw [e, R.bind_ok] at h
    rw [R.bind_ok, h, R.bind_ok]
  | exc x ρ1 => rw [e] at h; cases h
  | stuck => rw [e] at h; cases h
end
end Pm
namespace Pm
open PySem PySem.Spec PyProof.Rows L2 Mr
section
variable {n : Nat} {ss : List Strand}
end
end Pm
namespace Pm
open PySem PySem.Spec PyProof.Rows L2 Mr
def Tst.holds (t : Tst) (X : List Int) : Bool := if t.more then decide (dot t.f X > 0) else decide (dot t.f X ≥ 0)
def Lp.bads (l : Lp) (X : List Int) : List (Nat × Tst) := ((List.range l.tests.length).zip l.tests).filter fun p => !p.2.holds X
def Lp.bad (l : Lp) (X : List Int) : List Nat := (l.bads X).map (·.1)
def Lp.ok (l : Lp) (X : List Int) : Bool := l.tests.all (·.holds X)
def Lp.at (l : Lp) : Nat → List Int → List Int
  | 0, X => X
  | k + 1, X => l.at k (l.next X)
/-- how many rounds until a test fails, of fewer than n -/
def Lp.first (l : Lp) : Nat → List Int → Option Nat
  | 0, _ => none
  | n + 1, X => if l.ok X = true then (l.first n (l.next X)).map (· + 1) else some 0
end Pm
namespace Pm
open PySem PySem.Spec PyProof.Rows L2 Mr
end Pm
namespace Pm
open PySem PySem.Spec PyProof.Rows L2 Mr
/-- max(1, min(m, n)) -/
theorem rounds_of (n m : Nat) (hm : 1 ≤ m) : ∃ N : Nat, (if (if (n : Int) < (m : Int) then (n : Int) else (m : Int)) > 1 then (if (n : Int) < (m : Int) then (n : Int) else (m : Int)) else 1) = (N : Int) ∧ N ≤ m := by
  by_cases c : (n : Int) < m
  · rw [if_pos c]
    by_cases c' : (n : Int) > 1
    · rw [if_pos c']; exact ⟨n, rfl, by omega⟩
    · rw [if_neg c']; exact ⟨1, rfl, by omega⟩
  · rw [if_neg c]
    by_cases c' : (m : Int) > 1
    · rw [if_pos c']; exact ⟨m, rfl, by omega⟩
    · rw [if_neg c']; exact ⟨1, rfl, by omega⟩
end Pm
namespace Pm
open PySem PySem.Spec PyProof.Rows L2 Mr
section
variable {n : Nat} {ss : List Strand}
theorem add_lstS {xs ys : List D} (h : xs.length + ys.length ≤ 1000) : addD (.lst xs) (.lst ys) = .ok (.lst (xs ++ ys)) := if_pos (by rw [sizeLine_eq]; omega)
theorem one_flat {x : D} : ∀ n : Nat, (List.replicate n [x]).flatten = List.replicate n x
  | 0 => rfl
  | n + 1 => by rw [List.replicate_succ, List.replicate_succ, List.flatten_cons, one_flat n]; rfl
theorem mul_one {x : D} {n : Nat} (h4 : n ≤ 1000) : mulD (.tup [x]) (.int n) = .ok (.tup (List.replicate n x)) := by
  show (if (n : Int) = 1 then FR.ok (D.tup [x]) else if _ then _ else if _ then FR.ok (D.tup (List.replicate (n : Int).toNat [x]).flatten) else .stuck) = _
  by_cases q : n = 1
  · subst q; rfl
  · rw [if_neg (by omega)]
    by_cases q0 : n = 0
    · subst q0; rw [if_pos ⟨by simp, by omega, by omega⟩]; rfl
    · rw [if_neg (by simp; omega), if_pos ⟨by simp, by omega, by omega, by simp⟩, Int.toNat_natCast, one_flat]
variable {num bad high sign : D}
end
end Pm
namespace Pm
open PySem PySem.Spec PyProof.Rows L2 Mr
mutual
/-- no script's list in it -/
def nfD : D → Bool
  | .tup xs => nfDs xs
  | .lst xs => nfDs xs
  | .frz _ => false
  | _ => true
def nfDs : List D → Bool
  | [] => true
  | x :: xs => nfD x && nfDs xs
end
theorem nfDs_all : ∀ {xs : List D}, nfDs xs = true ↔ ∀ x ∈ xs, nfD x = true
  | [] => by simp [nfDs]
  | d :: ds => by rw [nfDs, Bool.and_eq_true, nfDs_all]; simp
mutual
theorem okX_of : ∀ (n : Nat) (d : D), okD n d = true → nfD d = true → okX n d = true ∧ pyX d = py d
  | _, .non, _, _ => ⟨by unfold okX; rfl, rfl⟩
  | _, .bl _, _, _ => ⟨by unfold okX; rfl, rfl⟩
  | _, .int _, _, _ => ⟨by unfold okX; rfl, rfl⟩
  | _, .str _, _, _ => ⟨by unfold okX; rfl, rfl⟩
  | 0, .tup xs, h, _ => by simp [okD] at h
  | n + 1, .tup xs, h, f => by
    obtain ⟨a, b⟩ := okXs_of n xs (by simpa [okD] using h) (by simpa [nfD] using f)
    exact ⟨by simpa [okX] using a, by rw [pyX, py, b]⟩
  | 0, .lst xs, h, _ => by simp [okD] at h
  | n + 1, .lst xs, h, f => by
    obtain ⟨a, b⟩ := okXs_of n xs (by simpa [okD] using h) (by simpa [nfD] using f)
    exact ⟨by simpa [okX] using a, by rw [pyX, py, b]⟩
  | _, .frz xs, _, f => by simp [nfD] at f
  | _, .obj _ _ _, h, _ => by simp [okD] at h
  | _, .dct _ _, h, _ => by simp [okD] at h
  | _, .opq _, h, _ => by simp [okD] at h
  | _, .any, h, _ => by simp [okD] at h
theorem okXs_of : ∀ (n : Nat) (ds : List D), okDs n ds = true → nfDs ds = true → okXs n ds = true ∧ pyXs ds = pys ds
  | _, [], _, _ => ⟨by unfold okXs; rfl, rfl⟩
  | n, x :: xs, h, f => by
    rw [okDs, Bool.and_eq_true] at h
    rw [nfDs, Bool.and_eq_true] at f
    obtain ⟨a, b⟩ := okX_of n x h.1 f.1
    obtain ⟨c, d⟩ := okXs_of n xs h.2 f.2
    exact ⟨by rw [okXs, a, c]; rfl, by rw [pyXs, pys, b, d]⟩
end
/-- its text has at most W signs -/
def ShX (W : Nat) (d : D) : Prop := (pyX d).shown.length ≤ W ∧ (pyX d).showable = true
theorem ShX.of {W n : Nat} {d : D} (h : ShW W d) (k : okD n d = true) (f : nfD d = true) : ShX W d := by
  unfold ShX
  rw [(okX_of n d k f).2]
  exact h
theorem NameOk.len {x : Str} (h : NameOk x) : 1 ≤ x.length ∧ x.length ≤ 8 ∧ ∀ c ∈ x.cps.toList, 97 ≤ c ∧ c ≤ 122 := by
  have := h.2
  rw [Bool.and_eq_true, Bool.and_eq_true, Bool.and_eq_true, decide_eq_true_eq, decide_eq_true_eq, List.all_eq_true] at this
  exact ⟨this.1.1.1, this.1.1.2, fun c hc => of_decide_eq_true (this.1.2 c hc)⟩
theorem NameOk.nobody {x : Str} (h : NameOk x) : (x == Str.ofString "nobody") = false := by
  have := h.2
  rw [Bool.and_eq_true, Bool.not_eq_true'] at this
  exact this.2
@[simp] theorem nf_row {r : List Int} : nfD (rowD r) = true := by
  unfold rowD
  rw [nfD]
  exact nfDs_all.mpr fun x hx => by obtain ⟨i, _, rfl⟩ := List.mem_map.mp hx; rfl
@[simp] theorem nf_strs {r : List Str} : nfD (strsT r) = true := by
  unfold strsT
  rw [nfD]
  exact nfDs_all.mpr fun x hx => by obtain ⟨i, _, rfl⟩ := List.mem_map.mp hx; rfl
@[simp] theorem nf_rows {r : List (List Int)} : nfD (rowsD r) = true := by
  unfold rowsD
  rw [nfD]
  exact nfDs_all.mpr fun x hx => by obtain ⟨i, _, rfl⟩ := List.mem_map.mp hx; exact nf_row
@[simp] theorem nf_tsts {r : List Tst} : nfD (tstsD r) = true := by
  unfold tstsD
  rw [nfD]
  exact nfDs_all.mpr fun x hx => by
    obtain ⟨i, _, rfl⟩ := List.mem_map.mp hx
    unfold tstD
    rw [nfD, nfDs, nfDs, nfDs, nf_row]; rfl
end Pm
namespace Pm
open PySem PySem.Spec PyProof.Rows L2 Mr
section
variable {l : Lp}
theorem cls_lp {m : List D → FR D} : clsD [(Str.ofString "Loop", m)] (lpD l) = noxF (m [lpD l]) := id rfl
@[simp] theorem c_names : clsD [(Str.ofString "Loop", m_Loop_names)] (lpD l) = .ok (strsT l.names) := id rfl
@[simp] theorem c_steps : clsD [(Str.ofString "Loop", m_Loop_steps)] (lpD l) = .ok (rowsD l.steps) := id rfl
@[simp] theorem c_tests : clsD [(Str.ofString "Loop", m_Loop_tests)] (lpD l) = .ok (tstsD l.tests) := id rfl
@[simp] theorem c_width' : clsD [(Str.ofString "Loop", m_Loop_width)] (lpD l) = .ok (.int ((l.n : Int) + 1)) := id rfl
@[simp] theorem c_matrix : clsD [(Str.ofString "Loop", m_Loop_matrix)] (lpD l) = .ok (rowsD l.mat) := by
  have e : m_Loop_matrix [lpD l] = .ok (rowsD l.mat) := by
    unfold m_Loop_matrix b_Loop_matrix runF
    simp
  rw [cls_lp, e]; rfl
/-- the multipliers -/
def Lp.own (l : Lp) : List Int := ((List.range l.steps.length).zip l.steps).map fun p => p.2.getD (p.1 + 1) 0
theorem own_at {p : Nat × List Int} (h : LpOk l) (hp : p ∈ (List.range l.steps.length).zip l.steps) : ixD (rowD p.2) (.int ((p.1 : Int) + 1)) = .ok (.int (p.2.getD (p.1 + 1) 0)) := by
  obtain ⟨i, hi, e⟩ := List.getElem_of_mem hp
  rw [List.getElem_zip, List.getElem_range] at e
  subst e
  have hs : i < l.steps.length := by rw [List.length_zip] at hi; omega
  have q := h.st i _ (List.getElem?_eq_getElem hs)
  have lt : i + 1 < l.steps[i].length := by rw [q.len]; have := h.sl; omega
  refine ixD_rowZ (k := i + 1) (by push_cast; rfl) ?_
  rw [List.getElem?_eq_getElem lt, List.getD_eq_getElem?_getD, List.getElem?_eq_getElem lt]
  rfl
@[simp] theorem ap_SplitN {fo fe : M D} {ρ : Ro} : mSplitN fo fe ρ = (fo ρ).bind fun d ρ => match d with
  | .str a => (fe ρ).bind fun x ρ => (splitN (.str a) x).lift ρ
  | _ => .stuck := id rfl
end
end Pm
namespace Pm
open PySem PySem.Spec PyProof.Rows L2 Mr
def kL (L : List Int) : List Key := L.map .inl
theorem has_kL {q : Int} : ∀ (L : List Int), hasK (.inl q) (kL L) = L.contains q
  | [] => rfl
  | b :: L => by
    have ih := has_kL (q := q) L
    unfold hasK kL at ih ⊢
    rw [List.map_cons, List.any_cons, ih, List.contains_cons]
    congr 1
    by_cases c : b = q
    · subst c; simp
    · have h1 : (q == b) = false := by simpa using fun z : q = b => c z.symm
      have h2 : ¬ ((Sum.inl b : Key) = .inl q) := fun z => c (by cases z; rfl)
      rw [h1, decide_eq_false h2]
theorem setK_kL {q : Int} {L : List Int} : setKs (.inl q) (kL L) = kL (if L.contains q then L else L ++ [q]) := by
  unfold setKs
  rw [has_kL]
  cases c : L.contains q with
  | true => simp
  | false => simp [kL]
theorem zip_kL {f : Int → D} {q : Int} {y : D} : ∀ (L : List Int), (kL L).zipWith (fun k d => if k = (Sum.inl q : Key) then y else d) (L.map f) = L.map fun b => if b = q then y else f b
  | [] => rfl
  | b :: L => by
    have ih := zip_kL (f := f) (q := q) (y := y) L
    unfold kL at ih ⊢
    rw [List.map_cons, List.map_cons, List.zipWith_cons_cons, List.map_cons, ih]
    congr 1
    by_cases c : b = q
    · subst c; simp
    · rw [if_neg (fun z => c (by cases z; rfl)), if_neg c]
theorem setV_kL {f : Int → D} {q : Int} {y : D} {L : List Int} : setVs (.inl q) y (kL L) (L.map f) = (if L.contains q then L else L ++ [q]).map fun b => if b = q then y else f b := by
  unfold setVs
  rw [has_kL]
  cases c : L.contains q with
  | true => simp [zip_kL]
  | false =>
    have hq : ∀ b ∈ L, b ≠ q := fun b hb z => by
      subst z
      have : L.contains b = true := by simpa using hb
      rw [this] at c; cases c
    rw [if_neg Bool.false_ne_true, if_neg Bool.false_ne_true, List.map_append]
    have : (L.map fun b => if b = q then y else f b) = L.map f := List.map_congr_left fun b hb => if_neg (hq b hb)
    rw [this]
    simp
end Pm
namespace Pm
open PySem PySem.Spec PyProof.Rows L2 Mr
section
variable {own : List Int}
end
end Pm
namespace Pm
open PySem PySem.Spec PyProof.Rows L2 Mr
@[simp] theorem tuple_rowD {X : List Int} : tupleD [rowD X] = .ok (rowD X) := id rfl
end Pm
namespace Pm
open PySem PySem.Spec PyProof.Rows L2 Mr
/-- g 0 + .. + g (w - 1) -/
def sumN : Nat → (Nat → Int) → Int
  | 0, _ => 0
  | w + 1, g => sumN w g + g w
theorem sumN_le {B : Nat} : ∀ {w : Nat} {g : Nat → Int}, (∀ l, l < w → (g l).natAbs ≤ B) → (sumN w g).natAbs ≤ w * B
  | 0, _, _ => by simp [sumN]
  | w + 1, g, h => by
    have h1 := sumN_le (w := w) (g := g) fun l hl => h l (by omega)
    have h2 := h w (by omega)
    show (sumN w g + g w).natAbs ≤ _
    have : (sumN w g + g w).natAbs ≤ (sumN w g).natAbs + (g w).natAbs := Int.natAbs_add_le _ _
    rw [Nat.succ_mul]
    omega
theorem sumN_zero : ∀ {w : Nat} {g : Nat → Int}, (∀ l, l < w → g l = 0) → sumN w g = 0
  | 0, _, _ => rfl
  | w + 1, g, h => by
    show sumN w g + g w = 0
    rw [sumN_zero fun l hl => h l (by omega), h w (by omega)]; rfl
theorem sumN_one {i : Nat} : ∀ {w : Nat} {g : Nat → Int}, i < w → (∀ l, l < w → l ≠ i → g l = 0) → sumN w g = g i
  | 0, _, h, _ => absurd h (Nat.not_lt_zero _)
  | w + 1, g, h, z => by
    show sumN w g + g w = g i
    by_cases e : i = w
    · subst e
      rw [sumN_zero fun l hl => z l (by omega) (by omega)]; omega
    · rw [sumN_one (i := i) (by omega) fun l hl => z l (by omega), z w (by omega) (fun q => e q.symm)]; omega
/-- the row of the numbers g 0, .. g (w - 1) -/
def vecL (w : Nat) (g : Nat → Int) : List Int := (List.range w).map g
def matL (w : Nat) (f : Nat → Nat → Int) : List (List Int) := (List.range w).map fun i => vecL w (f i)
@[simp] theorem vecL_len {w : Nat} {g : Nat → Int} : (vecL w g).length = w := by simp [vecL]
@[simp] theorem matL_len {w : Nat} {f : Nat → Nat → Int} : (matL w f).length = w := by simp [matL]
def mulM (w : Nat) (f g : Nat → Nat → Int) (i j : Nat) : Int := sumN w fun l => f i l * g l j
/-- triangular, with bounds that grow by the distance from the diagonal -/
structure Tri (w D c : Nat) (f : Nat → Nat → Int) : Prop where
  up : ∀ i j, i < w → j < w → i < j → f i j = 0
  lo : ∀ i j, i < w → j < w → j ≤ i → (f i j).natAbs ≤ D * c ^ (i - j)
theorem natAbs_mul_le {a b : Int} {A B : Nat} (h : a.natAbs ≤ A) (h' : b.natAbs ≤ B) : (a * b).natAbs ≤ A * B := by
  rw [Int.natAbs_mul]; exact Nat.mul_le_mul h h'
theorem Tri.sq {w D c : Nat} {f : Nat → Nat → Int} (h : Tri w D c f) (hw : w ≤ 5) : Tri w (D * D) (5 * c) (mulM w f f) := by
  refine ⟨fun i j hi hj lt => sumN_zero fun l hl => ?_, fun i j hi hj le => ?_⟩
  · by_cases q : i < l
    · rw [h.up i l hi hl q, Int.zero_mul]
    · rw [h.up l j hl hj (by omega), Int.mul_zero]
  · by_cases e : i = j
    · subst e
      rw [Nat.sub_self, Nat.pow_zero, Nat.mul_one]
      rw [show mulM w f f i i = f i i * f i i from sumN_one hi fun l hl ne => by
        by_cases q : i < l
        · rw [h.up i l hi hl q, Int.zero_mul]
        · rw [h.up l i hl hi (by omega), Int.mul_zero]]
      have b := h.lo i i hi hi (Nat.le_refl _)
      rw [Nat.sub_self, Nat.pow_zero, Nat.mul_one] at b
      exact natAbs_mul_le b b
    · have hb : ∀ l, l < w → (f i l * f l j).natAbs ≤ D * D * c ^ (i - j) := fun l hl => by
        by_cases q : i < l
        · rw [h.up i l hi hl q, Int.zero_mul]; exact Nat.zero_le _
        · by_cases q2 : l < j
          · rw [h.up l j hl hj q2, Int.mul_zero]; exact Nat.zero_le _
          · have b1 := natAbs_mul_le (h.lo i l hi hl (by omega)) (h.lo l j hl hj (by omega))
            have e1 : c ^ (i - l) * c ^ (l - j) = c ^ (i - j) := by rw [← Nat.pow_add]; congr 1; omega
            calc _ ≤ _ := b1
              _ = D * D * (c ^ (i - l) * c ^ (l - j)) := by ac_rfl
              _ = _ := by rw [e1]
      have s := sumN_le hb
      have g5 : w ≤ 5 ^ (i - j) := by
        have : 5 ^ 1 ≤ 5 ^ (i - j) := Nat.pow_le_pow_right (by decide) (by omega)
        omega
      calc _ ≤ _ := s
        _ ≤ 5 ^ (i - j) * (D * D * c ^ (i - j)) := Nat.mul_le_mul_right _ g5
        _ = _ := by rw [Nat.mul_pow]; ac_rfl
end Pm
namespace Pm
open PySem PySem.Spec PyProof.Rows L2 Mr
/-- the first row from at on whose number at a place is not 0, else at -/
def pivN (n : Nat) (f : Nat → Nat → Int) (at_ : Nat) : Nat := match (List.range (n - at_)).find? fun i => !(f (at_ + i) at_ == 0) with
  | some i => at_ + i
  | none => at_
def swpN (f : Nat → Nat → Int) (a p : Nat) : Nat → Nat → Int := fun i => if i = a then f p else if i = p then f a else f i
def clrN (low : (Nat → Int) → Nat → Int) (r p : Nat → Int) (a : Nat) : Nat → Int := low fun j => r j * p a - p j * r a
/-- one round of the elimination -/
def rndN (low : (Nat → Int) → Nat → Int) (n : Nat) (f : Nat → Nat → Int) (a : Nat) : Nat → Nat → Int := fun i =>
  if i = a then swpN f a (pivN n f a) a else if swpN f a (pivN n f a) i a = 0 then swpN f a (pivN n f a) i else clrN low (swpN f a (pivN n f a) i) (swpN f a (pivN n f a) a) a
def elimN (low : (Nat → Int) → Nat → Int) (n : Nat) (f : Nat → Nat → Int) : Nat → Nat → Nat → Int
  | 0 => f
  | k + 1 => rndN low n (elimN low n f k) k
/-- by lists -/
def toF (L : List (List Int)) (i j : Nat) : Int := (L.getD i []).getD j 0
def okS (n : Nat) (L : List (List Int)) (k : Nat) : Bool := (List.range n).all fun i => (List.range n).all fun j => decide ((toF L i j).natAbs < 2 ^ 67)
theorem find_congr {α : Type} {p q : α → Bool} : ∀ {l : List α}, (∀ x ∈ l, p x = q x) → l.find? p = l.find? q
  | [], _ => rfl
  | x :: l, h => by
    rw [List.find?_cons, List.find?_cons, h x (List.mem_cons_self ..), find_congr fun y hy => h y (List.mem_cons_of_mem _ hy)]
theorem piv_lt {n a : Nat} {f : Nat → Nat → Int} (ha : a < n) : pivN n f a < n ∧ a ≤ pivN n f a := by
  unfold pivN
  split
  · rename_i i hi
    have := List.mem_range.mp (List.mem_of_find?_eq_some hi)
    omega
  · omega
theorem piv_congr {n a : Nat} {f g : Nat → Nat → Int} (h : ∀ i, i < n → (f i a = 0 ↔ g i a = 0)) : pivN n f a = pivN n g a := by
  unfold pivN
  rw [find_congr fun i hi => ?_]
  have := List.mem_range.mp hi
  have q := h (a + i) (by omega)
  by_cases c : f (a + i) a = 0
  · simp [c, q.mp c]
  · have c' : g (a + i) a ≠ 0 := fun z => c (q.mpr z)
    have d1 : (f (a + i) a == 0) = false := beq_eq_false_iff_ne.mpr c
    have d2 : (g (a + i) a == 0) = false := beq_eq_false_iff_ne.mpr c'
    simp only [d1, d2]
/-- a way to shorten rows -/
def LowOk (m : Nat) (low : (Nat → Int) → Nat → Int) : Prop := ∀ v, ∃ d : Int, 0 < d ∧ ∀ j, j < m → d * low v j = v j
/-- up to factors above 0 the same rows -/
def Sim (n m : Nat) (f r : Nat → Nat → Int) : Prop := ∀ i, i < n → ∃ c : Int, 0 < c ∧ ∀ j, j < m → c * f i j = r i j
theorem Sim.refl {n m : Nat} {f : Nat → Nat → Int} : Sim n m f f := fun i _ => ⟨1, by decide, fun j _ => Int.one_mul _⟩
theorem Sim.congr {n m : Nat} {f r r' : Nat → Nat → Int} (S : Sim n m f r) (h : ∀ i j, i < n → j < m → r i j = r' i j) : Sim n m f r' := fun i hi => by
  obtain ⟨c, h0, e⟩ := S i hi
  exact ⟨c, h0, fun j hj => (e j hj).trans (h i j hi hj)⟩
theorem Sim.zero {n m : Nat} {f r : Nat → Nat → Int} (S : Sim n m f r) {i j : Nat} (hi : i < n) (hj : j < m) : f i j = 0 ↔ r i j = 0 := by
  obtain ⟨c, h0, e⟩ := S i hi
  rw [← e j hj]
  constructor
  · intro z; rw [z, Int.mul_zero]
  · intro z
    rcases Int.mul_eq_zero.mp z with z | z
    · omega
    · exact z
theorem Sim.swp {n m a p : Nat} {f r : Nat → Nat → Int} (S : Sim n m f r) (ha : a < n) (hp : p < n) : Sim n m (swpN f a p) (swpN r a p) := fun i hi => by
  unfold swpN
  by_cases h1 : i = a
  · simp only [if_pos h1]; exact S p hp
  · by_cases h2 : i = p
    · simp only [if_neg h1, if_pos h2]; exact S a ha
    · simp only [if_neg h1, if_neg h2]; exact S i hi
theorem mul4 (a b x y : Int) : a * b * (x * y) = a * x * (b * y) := by ac_rfl
theorem Sim.rnd {n m a : Nat} {f r : Nat → Nat → Int} {low : (Nat → Int) → Nat → Int} (L : LowOk m low) (hnm : n ≤ m) (S : Sim n m f r) (ha : a < n) : Sim n m (rndN low n f a) (rndN (fun v => v) n r a) := fun i hi => by
  have ep : pivN n f a = pivN n r a := piv_congr fun i hi => S.zero hi (by omega)
  have hp := (piv_lt (f := r) ha).1
  have S' := S.swp ha hp
  unfold rndN
  rw [ep]
  by_cases h1 : i = a
  · simp only [if_pos h1]; exact S' a ha
  · simp only [if_neg h1]
    by_cases h2 : swpN f a (pivN n r a) i a = 0
    · have h3 := (S'.zero hi (by omega : a < m)).mp h2
      simp only [if_pos h2, if_pos h3]; exact S' i hi
    · have h3 : ¬ swpN r a (pivN n r a) i a = 0 := fun z => h2 ((S'.zero hi (by omega : a < m)).mpr z)
      simp only [if_neg h2, if_neg h3]
      obtain ⟨ci, hci, ei⟩ := S' i hi
      obtain ⟨ca, hca, ea⟩ := S' a ha
      obtain ⟨d, hd, ed⟩ := L fun j => swpN f a (pivN n r a) i j * swpN f a (pivN n r a) a a - swpN f a (pivN n r a) a j * swpN f a (pivN n r a) i a
      refine ⟨ci * ca * d, Int.mul_pos (Int.mul_pos hci hca) hd, fun j hj => ?_⟩
      unfold clrN
      dsimp only
      rw [Int.mul_assoc, ed j hj, ← ei j hj, ← ea a (by omega), ← ea j hj, ← ei a (by omega), Int.mul_sub, mul4]
      congr 1
      rw [Int.mul_comm ci ca, mul4]
theorem Sim.elim {n m : Nat} {f : Nat → Nat → Int} {low : (Nat → Int) → Nat → Int} (L : LowOk m low) (hnm : n ≤ m) : ∀ k, k ≤ n → Sim n m (elimN low n f k) (elimN (fun v => v) n f k)
  | 0, _ => Sim.refl
  | k + 1, h => (Sim.elim L hnm k (by omega)).rnd L hnm (by omega)
/-- the equations' own columns go by themselves -/
theorem rnd_own {n a : Nat} {f g : Nat → Nat → Int} (ha : a < n) (h : ∀ i j, i < n → j < n → f i j = g i j) : ∀ i j, i < n → j < n → rndN (fun v => v) n f a i j = rndN (fun v => v) n g a i j := fun i j hi hj => by
  have ep : pivN n f a = pivN n g a := piv_congr fun i hi => by rw [h i a hi ha]
  have hp := (piv_lt (f := g) ha).1
  have hs : ∀ i j, i < n → j < n → swpN f a (pivN n g a) i j = swpN g a (pivN n g a) i j := fun i j hi hj => by
    unfold swpN
    by_cases h1 : i = a
    · simp only [if_pos h1]; exact h _ _ hp hj
    · by_cases h2 : i = pivN n g a
      · simp only [if_neg h1, if_pos h2]; exact h _ _ ha hj
      · simp only [if_neg h1, if_neg h2]; exact h _ _ hi hj
  unfold rndN
  rw [ep]
  by_cases h1 : i = a
  · simp only [if_pos h1]; exact hs a j ha hj
  · simp only [if_neg h1]
    rw [hs i a hi ha]
    by_cases h2 : swpN g a (pivN n g a) i a = 0
    · simp only [if_pos h2]; exact hs i j hi hj
    · simp only [if_neg h2]
      unfold clrN
      dsimp only
      rw [hs i j hi hj, hs a a ha ha, hs a j ha hj, hs i a hi ha]
theorem elim_own {n : Nat} {f g : Nat → Nat → Int} (h : ∀ i j, i < n → j < n → f i j = g i j) : ∀ k, k ≤ n → ∀ i j, i < n → j < n → elimN (fun v => v) n f k i j = elimN (fun v => v) n g k i j
  | 0, _ => h
  | k + 1, hk => rnd_own (by omega) (elim_own h k (by omega))
structure Good4 (n : Nat) (f : Nat → Nat → Int) : Prop where
  sz : ∀ k, k ≤ n → ∀ i j, i < n → j < n → (elimN (fun v => v) n f k i j).natAbs < 2 ^ 67
  piv : ∀ k, k < n → elimN (fun v => v) n f (k + 1) k k ≠ 0
  off : ∀ i j, i < n → j < n → i ≠ j → elimN (fun v => v) n f n i j = 0
  dia : ∀ i, i < n → elimN (fun v => v) n f n i i ≠ 0
theorem Good4.congr {n : Nat} {f g : Nat → Nat → Int} (G : Good4 n f) (h : ∀ i j, i < n → j < n → g i j = f i j) : Good4 n g := by
  refine ⟨fun k hk i j hi hj => ?_, fun k hk => ?_, fun i j hi hj ne => ?_, fun i hi => ?_⟩
  · rw [elim_own h k hk i j hi hj]; exact G.sz k hk i j hi hj
  · rw [elim_own h (k + 1) (by omega) k k hk hk]; exact G.piv k hk
  · rw [elim_own h n (Nat.le_refl _) i j hi hj]; exact G.off i j hi hj ne
  · rw [elim_own h n (Nat.le_refl _) i i hi hi]; exact G.dia i hi
end Pm
namespace Pm
open PySem PySem.Spec PyProof.Rows L2 Mr
end Pm
namespace Fm
abbrev W := Nat → Int
def wa (u v : W) : W := fun i => u i + v i
def ws (c : Int) (u : W) : W := fun i => c * u i
def w0 : W := fun _ => 0
inductive Cone (S : W → Prop) : W → Prop
  | zero : Cone S w0
  | add {u v : W} : Cone S u → Cone S v → Cone S (wa u v)
  | smul {s : W} {c : Int} : S s → 0 ≤ c → Cone S (ws c s)
  | div {w : W} {c : Int} : 0 < c → Cone S (ws c w) → Cone S w
theorem Cone.ind {S : W → Prop} {P : W → Prop} (h0 : P w0) (ha : ∀ u v, P u → P v → P (wa u v)) (hs : ∀ s c, S s → 0 ≤ c → P (ws c s)) (hd : ∀ c w, 0 < c → P (ws c w) → P w) : ∀ {w : W}, Cone S w → P w := by
  intro w h
  induction h with
  | zero => exact h0
  | add _ _ a b => exact ha _ _ a b
  | smul a b => exact hs _ _ a b
  | div a _ b => exact hd _ _ a b
theorem ws_one (w : W) : ws 1 w = w := by funext i; simp [ws]
theorem ws_zero (w : W) : ws 0 w = w0 := by funext i; simp [ws, w0]
theorem ws_w0 (c : Int) : ws c w0 = w0 := by funext i; simp [ws, w0]
theorem ws_ws (c d : Int) (w : W) : ws c (ws d w) = ws (c * d) w := by funext i; simp [ws, Int.mul_assoc]
theorem ws_wa (c : Int) (u v : W) : ws c (wa u v) = wa (ws c u) (ws c v) := by funext i; simp [ws, wa, Int.mul_add]
theorem wa_w0 (u : W) : wa u w0 = u := by funext i; simp [wa, w0]
theorem Cone.of {S : W → Prop} {s : W} (h : S s) : Cone S s := by
  have := Cone.smul (c := 1) h (by decide)
  rwa [ws_one] at this
theorem Cone.scale {S : W → Prop} {w : W} (h : Cone S w) : ∀ {c : Int}, 0 ≤ c → Cone S (ws c w) := by
  refine Cone.ind (P := fun w => ∀ {c : Int}, 0 ≤ c → Cone S (ws c w)) ?_ ?_ ?_ ?_ h
  · intro c _; rw [ws_w0]; exact .zero
  · intro u v hu hv c hc; rw [ws_wa]; exact .add (hu hc) (hv hc)
  · intro s d hs hd c hc; rw [ws_ws]; exact .smul hs (Int.mul_nonneg hc hd)
  · intro d w hd ih c hc
    refine .div hd ?_
    rw [ws_ws, Int.mul_comm, ← ws_ws]; rw [ws_ws, Int.mul_comm, ← ws_ws] 
    have := ih hc
    rw [ws_ws] at this ⊢
    rw [Int.mul_comm] at this ⊢
    first | exact this | (rw [Int.mul_comm]; exact this)
theorem Cone.bind {S T : W → Prop} (f : ∀ s, S s → Cone T s) {w : W} (h : Cone S w) : Cone T w := by
  refine Cone.ind (P := Cone T) .zero (fun _ _ a b => .add a b) (fun s c hs hc => (f s hs).scale hc) (fun c w hc h => .div hc h) h
theorem Cone.mono {S T : W → Prop} (f : ∀ s, S s → T s) {w : W} (h : Cone S w) : Cone T w := h.bind fun s hs => .of (f s hs)
/-- a linear form over weights -/
structure Lin (L : W → Int) : Prop where
  add : ∀ u v, L (wa u v) = L u + L v
  sm : ∀ c u, L (ws c u) = c * L u
theorem Lin.zero {L : W → Int} (h : Lin L) : L w0 = 0 := by
  have := h.sm 0 w0
  rw [ws_zero] at this; omega
theorem pos_of_mul {c x : Int} (hc : 0 < c) (h : 0 ≤ c * x) : 0 ≤ x := by
  rcases Int.lt_or_le x 0 with n | n
  · have := Int.mul_neg_of_pos_of_neg hc n; omega
  · exact n
theorem zero_of_mul {c x : Int} (hc : 0 < c) (h : c * x = 0) : x = 0 := by
  rcases Int.mul_eq_zero.mp h with z | z <;> omega
theorem Cone.null {S : W → Prop} {L : W → Int} (hL : Lin L) (h : ∀ s, S s → L s = 0) {w : W} (hw : Cone S w) : L w = 0 := by
  refine Cone.ind (P := fun w => L w = 0) ?_ ?_ ?_ ?_ hw
  · exact hL.zero
  · intro u v a b; rw [hL.add]; omega
  · intro s c hs hc; rw [hL.sm, h s hs, Int.mul_zero]
  · intro c w hc a; rw [hL.sm] at a; exact zero_of_mul hc a
/-- those above 0 give 0 by 0 alone -/
theorem Cone.only {S : W → Prop} {L : W → Int} (hL : Lin L) (h : ∀ s, S s → 0 < L s) {w : W} (hw : Cone S w) : L w = 0 → w = w0 := by
  have key : 0 ≤ L w ∧ (L w = 0 → w = w0) := by
    refine Cone.ind (P := fun w => 0 ≤ L w ∧ (L w = 0 → w = w0)) ?_ ?_ ?_ ?_ hw
    · exact ⟨by rw [hL.zero]; exact Int.le_refl _, fun _ => rfl⟩
    · rintro u v ⟨a1, a2⟩ ⟨b1, b2⟩
      rw [hL.add]
      refine ⟨by omega, fun e => ?_⟩
      rw [a2 (by omega), b2 (by omega), wa_w0]
    · intro s c hs hc
      rw [hL.sm]
      refine ⟨Int.mul_nonneg hc (Int.le_of_lt (h s hs)), fun e => ?_⟩
      have := h s hs
      rcases Int.mul_eq_zero.mp e with z | z
      · rw [z, ws_zero]
      · omega
    · rintro c w hc ⟨a1, a2⟩
      rw [hL.sm] at a1 a2
      refine ⟨pos_of_mul hc a1, fun e => ?_⟩
      have := a2 (by rw [e, Int.mul_zero])
      funext i
      have q := congrFun this i
      exact zero_of_mul hc q
  exact key.2
end Fm
namespace Fm
def sm : Nat → (Nat → Int) → Int
  | 0, _ => 0
  | m + 1, f => sm m f + f m
def cnt : Nat → (Nat → Bool) → Nat
  | 0, _ => 0
  | m + 1, p => cnt m p + if p m then 1 else 0
theorem sm_congr : ∀ {m : Nat} {f g : Nat → Int}, (∀ i, i < m → f i = g i) → sm m f = sm m g
  | 0, _, _, _ => rfl
  | m + 1, f, g, h => by
    unfold sm; rw [sm_congr fun i hi => h i (by omega), h m (by omega)]
theorem sm_add (m : Nat) (f g : Nat → Int) : sm m (fun i => f i + g i) = sm m f + sm m g := by
  induction m with
  | zero => rfl
  | succ m ih => unfold sm; rw [ih]; grind
theorem sm_mul (m : Nat) (c : Int) (f : Nat → Int) : sm m (fun i => c * f i) = c * sm m f := by
  induction m with
  | zero => simp [sm]
  | succ m ih => unfold sm; rw [ih, Int.mul_add]
theorem sm_zero (m : Nat) : sm m (fun _ => 0) = 0 := by
  induction m with
  | zero => rfl
  | succ m ih => unfold sm; rw [ih]; rfl
theorem sm_single {m i1 : Nat} (h : i1 < m) (x : Int) : sm m (fun i => if i = i1 then x else 0) = x := by
  induction m with
  | zero => omega
  | succ m ih =>
    unfold sm
    by_cases e : i1 = m
    · subst e
      rw [sm_congr (g := fun _ => 0) fun i hi => if_neg (by omega), sm_zero]; simp
    · rw [ih (by omega)]; have : ¬ m = i1 := fun z => e z.symm
      simp [this]
theorem cnt_congr : ∀ {m : Nat} {p q : Nat → Bool}, (∀ i, i < m → p i = q i) → cnt m p = cnt m q
  | 0, _, _, _ => rfl
  | m + 1, p, q, h => by
    unfold cnt; rw [cnt_congr fun i hi => h i (by omega), h m (by omega)]
theorem cnt_pos : ∀ {m : Nat} {p : Nat → Bool}, 0 < cnt m p → ∃ i, i < m ∧ p i = true
  | 0, _, h => by simp [cnt] at h
  | m + 1, p, h => by
    unfold cnt at h
    cases hp : p m with
    | true => exact ⟨m, by omega, hp⟩
    | false =>
      rw [hp] at h
      obtain ⟨i, hi, e⟩ := cnt_pos (m := m) (p := p) (by simpa using h)
      exact ⟨i, by omega, e⟩
theorem cnt_erase {m a : Nat} {p : Nat → Bool} (ha : a < m) (hp : p a = true) : cnt m p = cnt m (fun i => p i && !(i == a)) + 1 := by
  induction m with
  | zero => omega
  | succ m ih =>
    unfold cnt
    by_cases e : a = m
    · subst e
      have q : cnt a (fun i => p i && !(i == a)) = cnt a p := cnt_congr fun i hi => by
        have : i ≠ a := by omega
        simp [this]
      rw [q]; simp [hp]
    · rw [ih (by omega)]
      have : (m == a) = false := by simp; omega
      simp [this]; omega
/-- more unknowns than equations: a solution that is not 0 -/
theorem kernel {m : Nat} : ∀ (fs : List (Nat → Int)) (I : Nat → Bool), fs.length < cnt m I →
    ∃ z : W, (∃ i, i < m ∧ I i = true ∧ z i ≠ 0) ∧ (∀ i, m ≤ i → z i = 0) ∧ (∀ i, I i = false → z i = 0) ∧ ∀ f ∈ fs, sm m (fun i => f i * z i) = 0
  | [], I, h => by
    obtain ⟨a, ha, e⟩ := cnt_pos (by simpa using h)
    refine ⟨fun i => if i = a then 1 else 0, ⟨a, ha, e, by simp⟩, fun i hi => if_neg (by omega), fun i hi => if_neg fun z => ?_, fun f hf => by simp at hf⟩
    subst z; rw [e] at hi; cases hi
  | f :: fs, I, h => by
    simp only [List.length_cons] at h
    by_cases c : ∀ i, i < m → I i = true → f i = 0
    · obtain ⟨z, h1, h2, h3, h4⟩ := kernel (m := m) fs I (by omega)
      refine ⟨z, h1, h2, h3, fun g hg => ?_⟩
      rcases List.mem_cons.mp hg with rfl | hg
      · rw [sm_congr (g := fun _ => 0) fun i hi => ?_, sm_zero]
        cases hI : I i with
        | true => rw [c i hi hI, Int.zero_mul]
        | false => rw [h3 i hI, Int.mul_zero]
      · exact h4 g hg
    · obtain ⟨a, ha⟩ := Classical.not_forall.mp c
      obtain ⟨ha, ha'⟩ := Classical.not_imp.mp ha
      obtain ⟨hI, hf⟩ := Classical.not_imp.mp ha'
      have ce := cnt_erase ha hI
      obtain ⟨y, ⟨b, hb, hIb, yb⟩, h2, h3, h4⟩ := kernel (m := m) (fs.map fun g i => f a * g i - g a * f i) (fun i => I i && !(i == a)) (by rw [List.length_map]; omega)
      have hIb' : I b = true ∧ b ≠ a := by simpa using hIb
      have ya : y a = 0 := h3 a (by simp)
      refine ⟨fun i => if i = a then -sm m (fun i => f i * y i) else f a * y i, ⟨b, hb, hIb'.1, ?_⟩, fun i hi => ?_, fun i hi => ?_, fun g hg => ?_⟩
      · show (if b = a then _ else f a * y b) ≠ 0
        rw [if_neg hIb'.2]
        exact fun z => (Int.mul_eq_zero.mp z).elim hf yb
      · show (if i = a then _ else f a * y i) = 0
        rw [if_neg (by omega), h2 i hi, Int.mul_zero]
      · show (if i = a then _ else f a * y i) = 0
        rw [if_neg (fun e => by subst e; rw [hI] at hi; cases hi), h3 i (by simp [hi]), Int.mul_zero]
      · have split : ∀ g : Nat → Int, sm m (fun i => g i * (if i = a then -sm m (fun i => f i * y i) else f a * y i)) = f a * sm m (fun i => g i * y i) - g a * sm m (fun i => f i * y i) := fun g => by
          rw [sm_congr (g := fun i => f a * (g i * y i) + if i = a then -(g a * sm m (fun i => f i * y i)) else 0) fun i hi => ?_, sm_add, sm_mul, sm_single ha]
          · omega
          · by_cases e : i = a
            · subst e; simp [ya]; grind
            · simp [e]; grind
        rw [split g]
        rcases List.mem_cons.mp hg with rfl | hg
        · omega
        · have := h4 _ (List.mem_map_of_mem hg)
          rw [sm_congr (g := fun i => f a * (g i * y i) + -g a * (f i * y i)) fun i hi => by grind, sm_add, sm_mul, sm_mul] at this
          grind
  termination_by fs => fs.length
  decreasing_by all_goals simp [List.length_map]
/-- weights of which some columns are 0 -/
structure Ker (m : Nat) (fs : List (Nat → Int)) (w : W) : Prop where
  nn : ∀ i, 0 ≤ w i
  out : ∀ i, m ≤ i → w i = 0
  col : ∀ f ∈ fs, sm m (fun i => f i * w i) = 0
end Fm
namespace Fm
theorem Ker.tl {m : Nat} {f : Nat → Int} {fs : List (Nat → Int)} {w : W} (h : Ker m (f :: fs) w) : Ker m fs w := ⟨h.nn, h.out, fun g hg => h.col g (List.mem_cons_of_mem _ hg)⟩
theorem Ker.hd {m : Nat} {f : Nat → Int} {fs : List (Nat → Int)} {w : W} (h : Ker m (f :: fs) w) : sm m (fun i => f i * w i) = 0 := h.col f (List.mem_cons_self ..)
theorem Ker.cons {m : Nat} {f : Nat → Int} {fs : List (Nat → Int)} {w : W} (h : Ker m fs w) (e : sm m (fun i => f i * w i) = 0) : Ker m (f :: fs) w := ⟨h.nn, h.out, fun g hg => by
  rcases List.mem_cons.mp hg with rfl | hg
  · exact e
  · exact h.col g hg⟩
/-- a stage: its members are right, and make all -/
structure Stage (m : Nat) (fs : List (Nat → Int)) (S : W → Prop) : Prop where
  ok : ∀ s, S s → Ker m fs s
  all : ∀ w, Ker m fs w → Cone S w
/-- the columns from r on, below n = r + k -/
def colsA (A : Nat → Nat → Int) (n : Nat) : Nat → List (Nat → Int)
  | 0 => []
  | k + 1 => (fun i => A i (n - 1 - k)) :: colsA A n k
end Fm
namespace Pm
open PySem PySem.Spec PyProof.Rows L2 Mr
abbrev SzL (a : Nat) (X : List Int) : Prop := ∀ x ∈ X, Sz a x
theorem SzL.mono {a b : Nat} {X : List Int} (h : SzL a X) (l : a ≤ b) : SzL b X := fun x hx => (h x hx).mono l
def jointR (f : Int) (X : List Int) (g : Int) (Y : List Int) : List Int := X.zipWith (fun x y => f * x + g * y) Y
@[simp] theorem jointR_len {f g : Int} {X Y : List Int} : (jointR f X g Y).length = min X.length Y.length := by unfold jointR; exact List.length_zipWith
abbrev PR := List Int × List Int
def prDC (p : PR) : D := .tup [rowD p.1, rowD p.2]
abbrev PV := Nat × PR
/-- a row, its weights: their lengths and sizes -/
structure PrOk (w m a : Nat) (p : PR) : Prop where
  l1 : p.1.length = w
  l2 : p.2.length = m
  s1 : SzL a p.1
  s2 : SzL a p.2
theorem PrOk.mono {w m a b : Nat} {p : PR} (h : PrOk w m a p) (l : a ≤ b) : PrOk w m b p := ⟨h.l1, h.l2, h.s1.mono l, h.s2.mono l⟩
theorem noD_ints : ∀ X : List Int, noDs (X.map D.int) = true
  | [] => rfl
  | x :: X => by rw [List.map_cons, noDs, noD_ints X]; rfl
@[simp] theorem noD_rowC (X : List Int) : noD (rowD X) = true := by
  show noDs (X.map D.int) = true
  exact noD_ints X
@[simp] theorem noD_pr (p : PR) : noD (prDC p) = true := by
  show (noD (rowD p.1) && (noD (rowD p.2) && true)) = true
  rw [noD_rowC, noD_rowC]; rfl
end Pm
namespace Pm
open PySem PySem.Spec PyProof.Rows L2 Mr
/-- a sum of rows, each taken as often as its weight tells -/
def cmb (N : List (List Int)) (t : List Int) (j : Nat) : Int := Fm.sm N.length fun i => t.getD i 0 * (N.getD i []).getD j 0
def Comb (w : Nat) (N : List (List Int)) (p : PR) : Prop := ∀ j, j < w → p.1.getD j 0 = cmb N p.2 j
/-- pivots: each above 0 at its place, 0 at the others' -/
structure Pivs (w m b : Nat) (P : List PV) : Prop where
  ok : ∀ q ∈ P, PrOk w m b q.2 ∧ q.1 < w
  pos : ∀ q ∈ P, 0 < q.2.1.getD q.1 0
  nd : (P.map (·.1)).Nodup
  off : ∀ q ∈ P, ∀ q' ∈ P, q.1 ≠ q'.1 → q.2.1.getD q'.1 0 = 0
theorem Pivs.tl {w m b : Nat} {q : PV} {P : List PV} (h : Pivs w m b (q :: P)) : Pivs w m b P :=
  ⟨fun z hz => h.ok z (List.mem_cons_of_mem _ hz), fun z hz => h.pos z (List.mem_cons_of_mem _ hz), (List.nodup_cons.mp (by simpa using h.nd)).2, fun z hz y hy => h.off z (List.mem_cons_of_mem _ hz) y (List.mem_cons_of_mem _ hy)⟩
end Pm
namespace Pm
open PySem PySem.Spec PyProof.Rows L2 Mr
/-- what is 0 at all pivots is 0 at the rows so far -/
def Span (w : Nat) (N : List (List Int)) (n : Nat) (P : List PV) : Prop := ∀ x : List Int, x.length = w → (∀ q ∈ P, dot q.2.1 x = 0) → ∀ i, i < n → dot (N.getD i []) x = 0
theorem nodup_len : ∀ {w : Nat} {l : List Nat}, l.Nodup → (∀ x ∈ l, x < w) → l.length ≤ w
  | 0, l, _, h => by cases l with
    | nil => exact Nat.le_refl _
    | cons x l => exact absurd (h x (List.mem_cons_self ..)) (Nat.not_lt_zero _)
  | w + 1, l, hn, h => by
    have := nodup_len (w := w) (l := l.erase w) (hn.erase w) fun x hx => by
      have h1 := h x (List.mem_of_mem_erase hx)
      have h2 : x ≠ w := fun e => by subst e; exact (List.Nodup.not_mem_erase hn) hx
      omega
    rw [List.length_erase] at this
    split at this <;> omega
theorem Pivs.len {w m b : Nat} {P : List PV} (h : Pivs w m b P) : P.length ≤ w := by
  have := nodup_len h.nd fun x hx => by
    obtain ⟨q, hq, rfl⟩ := List.mem_map.mp hx
    exact (h.ok q hq).2
  simpa using this
end Pm
namespace Pm
open PySem PySem.Spec PyProof.Rows L2 Mr
end Pm
namespace Pm
open PySem PySem.Spec PyProof.Rows L2 Mr
end Pm
namespace Pm
open PySem PySem.Spec PyProof.Rows L2 Mr
/-- the sizes of so many pivots -/
def pB (a : Nat) : Nat → Nat
  | 0 => 0
  | r + 1 => a + (r + 1) * (pB a r + 1)
structure PI (w a : Nat) (N : List (List Int)) (n : Nat) (P : List PV) : Prop where
  pv : Pivs w N.length (pB a P.length) P
  cb : ∀ q ∈ P, Comb w N q.2
  sp : Span w N n P
/-- rows in a tuple or a list -/
structure Seq (X : D) (N : List (List Int)) : Prop where
  enum : enumD [X] = .ok (enumL (N.map rowD))
  len : lenD [X] = .ok (.int (N.length : Nat))
  noD : noD X = true
/-- the rows' width and sizes -/
def Rows (w a : Nat) (N : List (List Int)) : Prop := ∀ r ∈ N, r.length = w ∧ SzL a r
end Pm
namespace Pm
open PySem PySem.Spec PyProof.Rows L2 Mr
end Pm
namespace Pm
open PySem PySem.Spec PyProof.Rows L2 Mr
/-- of the point without a common divisor -/
structure Bas (w : Nat) (P : List PV) (f : Nat) (v : List Int) : Prop where
  len : v.length = w
  orth : ∀ q ∈ P, dot q.2.1 v = 0
  one : ∃ c s : Int, 0 < c ∧ 0 < s ∧ ∀ x : List Int, x.length = w → (∀ q ∈ P, x.getD q.1 0 = 0) → c * dot x v = x.getD f 0 * s
end Pm
namespace Pm
open PySem PySem.Spec PyProof.Rows L2 Mr
end Pm
namespace Pm
open PySem PySem.Spec PyProof.Rows L2 Mr
def vNo (v : SV) : Prop := v = .un ∨ (∃ k, v = .val (.int k)) ∨ (∃ X, v = .val (rowD X)) ∨ ∃ X : List Int, v = .own false (X.map .int)
theorem noL_ints : ∀ X : List Int, noLs (X.map D.int) = true
  | [] => rfl
  | x :: X => by rw [List.map_cons, noLs, noL_ints X]; rfl
theorem vNo.io {v : SV} (h : vNo v) : v.isIo = false := by
  rcases h with rfl | ⟨k, rfl⟩ | ⟨X, rfl⟩ | ⟨X, rfl⟩ <;> rfl
theorem vNo.hid {v : SV} (h : vNo v) : hidS v = v := by
  rcases h with rfl | ⟨k, rfl⟩ | ⟨X, rfl⟩ | ⟨X, rfl⟩
  · rfl
  · simp [hidS, noD]
  · simp [hidS]
  · rfl
theorem vNo.ok {v : SV} (h : vNo v) : okI v v := by
  rcases h with rfl | ⟨k, rfl⟩ | ⟨X, rfl⟩ | ⟨X, rfl⟩
  · trivial
  · rfl
  · rfl
  · exact noL_ints X
end Pm
namespace Pm
open PySem PySem.Spec PyProof.Rows L2 Mr
theorem lcM_filt {β : Type} {vs : List Nat} {t : Tg} {c : M Bool} {el : M D} {ρ : Ro} (hp : plainR ρ vs = true) (g : β → D) (C : β → Bool) (F : β → D) : ∀ (l : List β) (acc : List D), l.length + acc.length ≤ sizeLine →
    (∀ x ∈ l, ∃ ρ1, putT t (g x) (wipeR ρ vs) = .ok () ρ1 ∧ c ρ1 = .ok (C x) ρ1 ∧ freeR ρ1 vs = true ∧ backR ρ ρ1 vs = ρ ∧ (C x = true → el ρ1 = .ok (F x) ρ1)) →
    lcM vs t c el (l.map g) acc ρ = .ok (acc ++ (l.filter C).map F) ρ
  | [], acc, _, _ => by simp [lcM]
  | x :: l, acc, hl, h => by
    obtain ⟨ρ1, e1, e2, e3, e4, e5⟩ := h x (List.mem_cons_self ..)
    rw [List.length_cons] at hl
    rw [List.map_cons, lcM, if_pos hp, e1, Mr.R.bind_ok, e2, Mr.R.bind_ok]
    cases hc : C x with
    | true =>
      rw [if_pos rfl, e5 hc, Mr.R.bind_ok, if_pos ⟨by omega, e3⟩, e4]
      rw [lcM_filt hp g C F l (acc ++ [F x]) (by rw [List.length_append, List.length_singleton]; omega) fun z hz => h z (List.mem_cons_of_mem _ hz)]
      simp [hc]
    | false =>
      rw [if_neg (by simp), if_pos e3, e4]
      rw [lcM_filt hp g C F l acc (by omega) fun z hz => h z (List.mem_cons_of_mem _ hz)]
      simp [hc]
end Pm
namespace Pm
open PySem PySem.Spec PyProof.Rows L2 Mr
def lastI (X : List Int) : Int := X.getD (X.length - 1) 0
/-- the lengths of stages -/
def stepN (n : Nat) : Nat := max n (n * n / 4)
def lenB (m : Nat) : Nat → Nat
  | 0 => m
  | k + 1 => stepN (lenB m k)
end Pm
namespace Pm
open PySem PySem.Spec PyProof.Rows L2 Mr
end Pm
namespace Pm
open PySem PySem.Spec PyProof.Rows L2 Mr
def cB (a : Nat) : Nat → Nat
  | 0 => a
  | k + 1 => cB a k + cB a k + 1
end Pm
namespace Pm
open PySem PySem.Spec PyProof.Rows L2 Mr
def wOf (X : List Int) : Fm.W := fun i => X.getD i 0
/-- the row of weights is the sum -/
def Sums (A : Nat → Nat → Int) (m : Nat) (p : PR) : Prop := ∀ j, j < p.1.length → p.1.getD j 0 = Fm.sm m fun i => A i j * wOf p.2 i
/-- a stage of lists -/
structure StL (A : Nat → Nat → Int) (n m a k : Nat) (S : List PR) : Prop where
  ok : ∀ p ∈ S, PrOk (n - k) m a p
  sums : ∀ p ∈ S, Sums A m p
  st : Fm.Stage m (Fm.colsA A n k) fun s => ∃ p ∈ S, s = wOf p.2
end Pm
namespace Pm
open PySem PySem.Spec PyProof.Rows L2 Mr
def chs : Nat → Nat → Nat
  | _, 0 => 1
  | 0, _ + 1 => 0
  | m + 1, k + 1 => chs m k + chs m (k + 1)
section
variable {n a : Nat} {rs : List (List Int)} (h : ∀ r ∈ rs, r.length = n ∧ SzL a r) (ha : 1 ≤ a)
include h ha
end
/-- the bound of a stage's length -/
def lenG (m k : Nat) : Nat := if k + 1 ≤ m then min (lenB m k) (chs m (k + 1) * lenB (k + 1) k) else lenB m k
def lenM (m n : Nat) : Bool := (List.range n).all fun i => decide (stepN (lenG m i) ≤ 16777216)
end Pm
namespace Pm
open PySem PySem.Spec PyProof.Rows L2 Mr
end Pm
namespace Pm
open PySem PySem.Spec PyProof.Rows L2 Mr
abbrev Bd := Option (Int × Int)
end Pm
namespace Pm
open PySem PySem.Spec PyProof.Rows L2 Mr
structure Bnd (S : List PR) (X : List Int) (lo hi : Bd) : Prop where
  loIn : ∀ l, lo = some l → ∃ p ∈ S, 0 < lastI p.1 ∧ l = (-(dot p.1 X), lastI p.1)
  loAll : ∀ p ∈ S, 0 < lastI p.1 → ∃ l, lo = some l ∧ -(dot p.1 X) * l.2 ≤ l.1 * lastI p.1
  hiIn : ∀ h, hi = some h → ∃ p ∈ S, lastI p.1 < 0 ∧ h = (dot p.1 X, -lastI p.1)
  hiAll : ∀ p ∈ S, lastI p.1 < 0 → ∃ h, hi = some h ∧ h.1 * -lastI p.1 ≤ dot p.1 X * h.2
end Pm
namespace Pm
open PySem PySem.Spec PyProof.Rows L2 Mr
end Pm
namespace Pm
open PySem PySem.Spec PyProof.Rows L2 Mr
def eB (a n : Nat) : Nat → Nat
  | 0 => 0
  | r + 1 => cB a (n - (r + 1)) + cB a (n - (r + 1)) + eB a n r + 3
end Pm
namespace Pm
open PySem PySem.Spec PyProof.Rows L2 Mr
def zipS (t : List Int) (N : List (List Int)) (j : Nat) : Int := ((t.zip N).map fun p => p.1 * p.2.getD j 0).sum
end Pm
namespace Pm
open PySem PySem.Spec PyProof.Rows L2 Mr
/-- rows in a tuple or a list -/
structure SeqX (X : D) (N : List (List Int)) : Prop extends Seq X N where
  walk : walkD X = .ok (N.map rowD)
  seq : seqD X = some (N.map rowD)
  items : itemsD X = .ok (N.map rowD)
end Pm
namespace Pm
open PySem PySem.Spec PyProof.Rows L2 Mr
end Pm
namespace Pm
open PySem PySem.Spec PyProof.Rows L2 Mr
end Pm
namespace Pm
open PySem PySem.Spec PyProof.Rows L2 Mr
theorem Pivs.mono {w m b c : Nat} {P : List PV} (h : Pivs w m b P) (l : b ≤ c) : Pivs w m c P := ⟨fun q hq => ⟨(h.ok q hq).1.mono l, (h.ok q hq).2⟩, h.pos, h.nd, h.off⟩
def rB (a r : Nat) : Nat := pB a r + 1
def baB (a r : Nat) : Nat := 1 + r * rB a r + rB a r
def vB (a l r : Nat) : Nat := l + baB a r + 2
structure RsOk (a l m s n r : Nat) : Prop where
  c2 : baB a r ≤ 9000
  c3 : cB (vB a l r) n ≤ 9000
  c4 : lenM m n = true
  c5 : eB (vB a l r) n n ≤ 4000
  c6 : eB (vB a l r) n n + baB a r + 2 ≤ 9000
  c6' : eB (vB a l r) n n + baB a r + 2 ≤ s
  c7 : cB (vB a l r) n + l + 2 * m + r * (rB a r + 1) ≤ 9000
  c7' : cB (vB a l r) n + l + 2 * m + r * (rB a r + 1) ≤ s
/-- the answer -/
structure RptOk (w s : Nat) (N Le : List (List Int)) (row Z : List Int) : Prop where
  len : Z.length = w
  sz : SzL s Z
  null : ∀ r ∈ N, dot r Z = 0
  least : ∀ r ∈ Le, 0 ≤ dot r Z
  more : 0 < dot row Z
structure RwtOk (w s : Nat) (N Le : List (List Int)) (row : List Int) (c : Int) (ns ls : List Int) : Prop where
  one : 1 ≤ c
  ln : ns.length = N.length
  ll : ls.length = Le.length
  nn : ∀ x ∈ ls, 0 ≤ x
  sum : ∀ j, j < w → c * row.getD j 0 + zipS ls Le j + zipS ns N j = 0
  sc : Sz s c
  sn : SzL s ns
  sl : SzL s ls
end Pm
namespace Pm
open PySem PySem.Spec PyProof.Rows L2 Mr
end Pm
namespace Pm
open PySem PySem.Spec PyProof.Rows L2 Mr
structure CaseOk (w : Nat) (N H : List (List Int)) (row : List Int) : Prop where
  w1 : 1 ≤ w
  w4 : w ≤ 4
  lN : N.length ≤ 2
  lH : H.length ≤ 6
  hN : ∀ r ∈ N, r.length = w ∧ small 12 r
  hH : ∀ r ∈ H, r.length = w ∧ small 192 r
  hr : row.length = w ∧ small 192 row
end Pm
namespace Pm
open PySem PySem.Spec PyProof.Rows L2 Mr
def lenB' : D → Int
  | .tup xs => xs.length
  | _ => 0
def reqRow (wd : Option Int) (d : D) : Option (Option Int) :=
  if rowB d = true ∧ rowWB (wd.getD (lenB' d)) c_MAX_SIZE d = true then some (some (wd.getD (lenB' d))) else none
def reqRows : Option Int → List D → Option (Option Int)
  | wd, [] => some wd
  | wd, d :: ds => (reqRow wd d).bind fun wd => reqRows wd ds
def reqVal (wd : Option Int) : D → Option (Option Int)
  | .tup xs => reqRows wd xs
  | _ => none
end Pm
namespace Pm
open PySem PySem.Spec PyProof.Rows L2 Mr
def WdOk (w : Nat) (wd : Option Int) : Prop := wd = none ∨ wd = some (w : Int)
/-- no rows -/
def BadV (w : Nat) (v : D) : Prop := ∀ wd, WdOk w wd → reqVal wd v = none
/-- a value that is no rows, and no paper -/
structure Bad (w : Nat) (v : D) : Prop where
  pl : plD v = true
  bad : BadV w v
  no : isiD [v, .opq (.ty "tuple")] = .ok (.bl false) ∨ (isiD [v, .opq (.ty "tuple")] = .ok (.bl true) ∧ eqD v (.tup []) = .ok (.bl false) ∧ ∃ d, ixD v (.int 0) = .ok d ∧ isiD [d, .opq (.ty "str")] = .ok (.bl false))
end Pm
namespace Pm
open PySem PySem.Spec PyProof.Rows L2 Mr
end Pm
namespace Pm
open PySem PySem.Spec PyProof.Rows L2 Mr
end Pm
namespace Pm
open PySem PySem.Spec PyProof.Rows L2 Mr
end Pm
namespace Pm
open PySem PySem.Spec PyProof.Rows L2 Mr
end Pm
namespace Pm
open PySem PySem.Spec PyProof.Rows L2 Mr
end Pm
namespace Pm
open PySem PySem.Spec PyProof.Rows L2 Mr
/-- a case whose rise is told -/
structure Told (w a : Nat) (N H : List (List Int)) (row : List Int) : Prop where
  w1 : 1 ≤ w
  w4 : w ≤ 4
  ha : a ≤ 1000
  hN : ∀ r ∈ N, r.length = w ∧ SzL a r
  hH : ∀ r ∈ H, r.length = w ∧ SzL a r
  hr : row.length = w ∧ SzL a row
  lN : N.length ≤ 400
  lH : H.length ≤ 400
  rq : m_require_rows [.tup [.tup (N.map rowD), .tup (H.map rowD), rowD row]] = .ok .non
end Pm
namespace Pm
open PySem PySem.Spec PyProof.Rows L2 Mr
theorem filter_all {α : Type} {p : α → Bool} : ∀ l : List α, ((l.filter p).length = l.length) ↔ l.all p = true
  | [] => by simp
  | x :: l => by
    have ih := filter_all (p := p) l
    have le := List.length_filter_le p l
    cases hx : p x with
    | true => simp [hx, ih]
    | false => simp [hx]; omega
end Pm
namespace Pm
open PySem PySem.Spec PyProof.Rows L2 Mr
end Pm
namespace Pm
open PySem PySem.Spec PyProof.Rows L2 Mr
end Pm
namespace Pm
open PySem PySem.Spec PyProof.Rows L2 Mr
section
variable {w a : Nat} {N H : List (List Int)} {row : List Int}
end
end Pm
namespace Pm
open PySem PySem.Spec PyProof.Rows L2 Mr
section
variable {w a : Nat} {N H : List (List Int)} {row : List Int}
end
end Pm
namespace Pm
open PySem PySem.Spec PyProof.Rows L2 Mr
section
variable {w a : Nat} {N H : List (List Int)} {row : List Int}
end
end Pm
namespace Pm
open PySem PySem.Spec PyProof.Rows L2 Mr
end Pm
namespace Pm
open PySem PySem.Spec PyProof.Rows L2 Mr
section
variable {w a : Nat} {N H : List (List Int)} {row : List Int}
end
end Pm
namespace Pm
open PySem PySem.Spec PyProof.Rows L2 Mr
section
variable {w a : Nat} {N H : List (List Int)} {row : List Int}
end
end Pm
namespace Pm
open PySem PySem.Spec PyProof.Rows L2 Mr
end Pm
namespace Pm
open PySem PySem.Spec PyProof.Rows L2 Mr
theorem sgB_s {s : Str} (h : sgB s = true) : ∃ g : Sg, s = g.s := by
  have e : sgB s = ((c_MORE == s) || ((c_LEAST == s) || ((c_NULL == s) || false))) := by
    unfold sgB
    simp only [List.any_cons, List.any_nil]
    rfl
  rw [e] at h
  simp only [Bool.or_eq_true, beq_iff_eq, Bool.or_false] at h
  rcases h with h | h | h
  · exact ⟨.more, h.symm⟩
  · exact ⟨.least, h.symm⟩
  · exact ⟨.null, h.symm⟩
theorem betB_int {m : Int} : ∀ {xs : List D}, xs.all (betB m) = true → ∃ ns : List Int, xs = ns.map D.int ∧ ∀ x ∈ ns, -m ≤ x ∧ x ≤ m
  | [], _ => ⟨[], rfl, by simp⟩
  | x :: xs, h => by
    rw [List.all_cons, Bool.and_eq_true] at h
    obtain ⟨ns, e, hn⟩ := betB_int h.2
    cases x with
    | int i =>
      have h1 := h.1
      unfold betB at h1
      rw [Bool.and_eq_true, decide_eq_true_eq, decide_eq_true_eq] at h1
      exact ⟨i :: ns, by rw [e]; rfl, fun y hy => (List.mem_cons.mp hy).elim (fun z => z ▸ h1) (hn y)⟩
    | _ => simp [betB] at h
theorem c_max : c_MAX_SIZE = 99999999999999999999 := by decide +kernel
theorem rowW_row {w : Int} {r : D} (h : rowWB w c_MAX_SIZE r = true) : ∃ ns : List Int, r = rowD ns ∧ (ns.length : Int) = w ∧ ∀ x ∈ ns, -99999999999999999999 ≤ x ∧ x ≤ 99999999999999999999 := by
  cases r with
  | tup xs =>
    unfold rowWB at h
    rw [Bool.and_eq_true, Bool.and_eq_true, decide_eq_true_eq] at h
    obtain ⟨ns, e, hn⟩ := betB_int h.2.2
    rw [c_max] at hn
    exact ⟨ns, by rw [e]; rfl, by rw [← h.2.1, e, List.length_map], hn⟩
  | _ => simp [rowWB] at h
theorem strand_ok {n : Nat} {x : D} (h : strandB (n : Int) x = true) : ∃ s : Strand, x = sD s ∧ StrandOk n s := by
  cases x with
  | tup xs =>
    match xs, h with
    | [a, r], h =>
      cases a with
      | str s =>
        unfold strandB at h
        rw [Bool.and_eq_true] at h
        obtain ⟨g, rfl⟩ := sgB_s h.1
        cases r with
        | tup rs =>
          have h2 := h.2
          unfold rowsB at h2
          rw [Bool.and_eq_true, Bool.and_eq_true, decide_eq_true_eq, decide_eq_true_eq, List.all_eq_true] at h2
          obtain ⟨qs, e, hq⟩ := map_of rowD (p := fun ns : List Int => ns.length = n ∧ ∀ x ∈ ns, -99999999999999999999 ≤ x ∧ x ≤ 99999999999999999999) (ys := rs) fun y hy => by
            obtain ⟨ns, e1, e2, e3⟩ := rowW_row (h2.2 y hy)
            exact ⟨ns, e1, by omega, e3⟩
          refine ⟨⟨g, qs⟩, by rw [e]; rfl, ⟨fun z => ?_, ?_, fun r hr => hq r hr⟩⟩
          · have z : qs = [] := z
            rw [z] at e; rw [e] at h2; simp at h2
          · show qs.length ≤ 6
            have := h2.1.2; rw [e, List.length_map] at this; exact this
        | _ => simp [rowsB] at h
      | _ => simp [strandB] at h
    | [], h => simp [strandB] at h
    | [a], h => simp [strandB] at h
    | a :: b :: c :: r, h => simp [strandB] at h
  | _ => simp [strandB] at h
theorem pk_of {d : D} (h : strandsB d = true) : ∃ (n : Nat) (ss : List Strand), d = .tup (ss.map sD) ∧ PackOk n ss := by
  cases d with
  | tup xs =>
    unfold strandsB at h
    rw [Bool.and_eq_true, Bool.and_eq_true, decide_eq_true_eq, decide_eq_true_eq, List.any_eq_true] at h
    obtain ⟨⟨l1, l12⟩, w, hw, ha⟩ := h
    rw [List.all_eq_true] at ha
    obtain ⟨n, rfl, n1, n4⟩ : ∃ n : Nat, w = (n : Int) ∧ 1 ≤ n ∧ n ≤ 4 := by
      simp only [List.mem_cons, List.not_mem_nil, or_false] at hw
      rcases hw with rfl | rfl | rfl | rfl
      · exact ⟨1, rfl, by omega, by omega⟩
      · exact ⟨2, rfl, by omega, by omega⟩
      · exact ⟨3, rfl, by omega, by omega⟩
      · exact ⟨4, rfl, by omega, by omega⟩
    obtain ⟨ss, e, hs⟩ := map_of sD (p := fun s => StrandOk n s) (ys := xs) fun y hy => strand_ok (ha y hy)
    have ll : xs.length = ss.length := by rw [e, List.length_map]
    exact ⟨n, ss, by rw [e], ⟨n1, n4, fun z => by rw [z] at ll; simp at ll; rw [ll] at l1; simp at l1, by omega, hs⟩⟩
  | _ => simp [strandsB] at h
theorem strands_pk {n : Nat} {ss : List Strand} (h : PackOk n ss) : strandsB (.tup (ss.map sD)) = true := by
  have e := g_are_strands (d := .tup (ss.map sD)) (pl_tup (by have := h.le; simp; omega) fun x hx => by
    obtain ⟨s, hs, rfl⟩ := List.mem_map.mp hx
    exact pl_sD (h.ok s hs) h.h4)
  rw [e_are_strands h] at e
  injection e with e
  injection e with e
  exact e.symm
theorem e_told28 {d : D} (h : plD d = true) : m__law_told_k28 [d] = .ok (if strandsB d = true then d else .str (Str.ofString "none")) := by
  unfold m__law_told_k28 b__law_told_k28 runF xTry
  cases hb : strandsB d with
  | false =>
    have e := g_init_bad h hb (sv := .ins true "System" [] [])
    have g : xRet (m1 (clsD [(Str.ofString "System", m_System_strands)]) (mMake "System" m_System___init__ 1 [] (mCons (mVar 0) mNil))) [SV.val d] = .exc (exE (Str.ofString "InvalidSystem")) [SV.val d] := by simp [e]
    show (match (match xRet (m1 (clsD [(Str.ofString "System", m_System_strands)]) (mMake "System" m_System___init__ 1 [] (mCons (mVar 0) mNil))) [SV.val d] with
      | .exc x ρ' => _
      | r => r) with
      | R.ok Fl.nx ρ => FR.ok D.non
      | R.ok (Fl.rt d) ρ => FR.ok d
      | R.exc x ρ => FR.exc x
      | x => FR.stuck) = _
    rw [g]
    kernel_rfl
  | true =>
    obtain ⟨n, ss, rfl, pk⟩ := pk_of hb
    have i1 := e_init pk
    obtain ⟨T, hT⟩ : ∃ T, T = D.tup (ss.map sD) := ⟨_, rfl⟩
    have cs : clsD [(Str.ofString "System", m_System_strands)] (.obj "System" ["own_strands", "own_width"] [T, .int n]) = .ok T := by rw [hT]; exact c_strands
    rw [← hT] at i1 ⊢
    have g : xRet (m1 (clsD [(Str.ofString "System", m_System_strands)]) (mMake "System" m_System___init__ 1 [] (mCons (mVar 0) mNil))) [SV.val T] = .ok (.rt T) [SV.val T] := by simp [i1, cs]
    show (match (match xRet (m1 (clsD [(Str.ofString "System", m_System_strands)]) (mMake "System" m_System___init__ 1 [] (mCons (mVar 0) mNil))) [SV.val T] with
      | .exc x ρ' => _
      | r => r) with
      | R.ok Fl.nx ρ => FR.ok D.non
      | R.ok (Fl.rt d) ρ => FR.ok d
      | R.exc x ρ => FR.exc x
      | x => FR.stuck) = _
    rw [g]
    rfl
end Pm
namespace Pm
open PySem PySem.Spec PyProof.Rows L2 Mr
def T20 : Int := 100000000000000000000
theorem pow20 : powD (.int 10) (.int 20) = .ok (.int T20) := op_pow (by decide) sz_ten (by decide)
theorem abs_bet {x : Int} : decide ((if x < 0 then -x else x) < T20) = betB c_MAX_SIZE (.int x) := by
  unfold betB
  rw [c_max, Bool.eq_iff_iff]
  simp only [decide_eq_true_eq, Bool.and_eq_true]
  unfold T20
  constructor
  · intro h
    split at h <;> omega
  · intro h
    split <;> omega
theorem line_test {d RX : D} {n : Nat} (h : plD d = true) : (tAnd (tOf (mL isiD (mCons (mVar 3) (mCons (mC (.opq (.ty "int"))) mNil)))) (tAnd (tNot (tOf (mL isiD (mCons (mVar 3) (mCons (mC (.opq (.ty "bool"))) mNil))))) (tOf (m2 ltD (mL absD (mCons (mVar 3) mNil)) (m2 powD (mC (.int 10)) (mC (.int 20))))))) [.val RX, .val (.int n), .un, .val d] = .ok (betB c_MAX_SIZE d) [.val RX, .val (.int n), .un, .val d] := by
  refine plD_cases (P := fun d => (tAnd (tOf (mL isiD (mCons (mVar 3) (mCons (mC (.opq (.ty "int"))) mNil)))) (tAnd (tNot (tOf (mL isiD (mCons (mVar 3) (mCons (mC (.opq (.ty "bool"))) mNil))))) (tOf (m2 ltD (mL absD (mCons (mVar 3) mNil)) (m2 powD (mC (.int 10)) (mC (.int 20))))))) [.val RX, .val (.int n), .un, .val d] = .ok (betB c_MAX_SIZE d) [.val RX, .val (.int n), .un, .val d]) h ?_ ?_ ?_ ?_ ?_ ?_ ?_
  · simp [betB]
  · intro b; simp [betB]
  · intro i
    have e := abs_bet (x := i)
    have l : ltD (.int (if i < 0 then -i else i)) (.int T20) = .ok (.bl (betB c_MAX_SIZE (.int i))) := by rw [← e]; rfl
    obtain ⟨B, hB⟩ : ∃ B, B = betB c_MAX_SIZE (.int i) := ⟨_, rfl⟩
    rw [← hB] at l ⊢
    simp [pow20, l]
  · intro s; simp [betB]
  · intro xs _ _; simp [betB]
  · intro xs _ _; simp [betB]
  · simp [betB]
theorem g_line {xs : List D} (hl : xs.length ≤ 1000) (hx : ∀ x ∈ xs, plD x = true) : m__law_is_line_k28 [.tup xs, .int xs.length] = .ok (.bl (xs.all (betB c_MAX_SIZE))) := by
  have key := lcM_filt (vs := [3]) (t := .sl 3) (c := (tAnd (tOf (mL isiD (mCons (mVar 3) (mCons (mC (.opq (.ty "int"))) mNil)))) (tAnd (tNot (tOf (mL isiD (mCons (mVar 3) (mCons (mC (.opq (.ty "bool"))) mNil))))) (tOf (m2 ltD (mL absD (mCons (mVar 3) mNil)) (m2 powD (mC (.int 10)) (mC (.int 20)))))))) (el := e1__law_is_line_k28) (ρ := [.val (.tup xs), .val (.int xs.length), .un, .un]) rfl (fun d : D => d) (betB c_MAX_SIZE) (fun d => d) xs [] (by rw [sizeLine_eq]; simp; omega) fun d hd =>
    ⟨[.val (.tup xs), .val (.int xs.length), .un, .val d], rfl, line_test (n := xs.length) (hx d hd), rfl, rfl, fun _ => rfl⟩
  rw [List.nil_append, List.map_id', List.map_id'] at key
  have ll : lenD [.tup xs] = .ok (.int (xs.length : Nat)) := rfl
  have le : lenD [.lst (xs.filter (betB c_MAX_SIZE))] = .ok (.int ((xs.filter (betB c_MAX_SIZE)).length : Nat)) := rfl
  have fa := filter_all (p := betB c_MAX_SIZE) xs
  unfold m__law_is_line_k28 b__law_is_line_k28 q1__law_is_line_k28 runF
  obtain ⟨F, hF⟩ : ∃ F, F = xs.filter (betB c_MAX_SIZE) := ⟨_, rfl⟩
  obtain ⟨B, hB⟩ : ∃ B, B = xs.all (betB c_MAX_SIZE) := ⟨_, rfl⟩
  rw [← hF] at key le fa
  rw [← hB] at fa ⊢
  have e2 : decide ((F.length : Int) = (xs.length : Int)) = B := by
    rw [Bool.eq_iff_iff, decide_eq_true_eq, ← fa]; omega
  obtain ⟨a, ha⟩ : ∃ a : Int, a = xs.length := ⟨_, rfl⟩
  obtain ⟨b, hb⟩ : ∃ b : Int, b = F.length := ⟨_, rfl⟩
  have ll : lenD [.tup xs] = .ok (.int a) := by rw [ha]; exact ll
  have le : lenD [.lst F] = .ok (.int b) := by rw [hb]; exact le
  rw [← ha] at key e2 ⊢
  rw [← hb] at e2
  simp [ll, key, le, Mr.R.nox, e2]
/-- a row, whatever its length -/
def lineB : D → Bool
  | .tup ns => decide (1 ≤ ns.length) && decide (ns.length ≤ 4) && ns.all (betB c_MAX_SIZE)
  | _ => false
def lenI : D → Int
  | .tup ns => ns.length
  | _ => 0
def addK (L : List Int) (q : Int) : List Int := if L.contains q then L else L ++ [q]
theorem rowW_line {w : Int} (r : D) : rowWB w c_MAX_SIZE r = (lineB r && decide (lenI r = w)) := by
  cases r with
  | tup xs =>
    show (rowB (.tup xs) && (decide ((xs.length : Int) = w) && xs.all (betB c_MAX_SIZE))) = (decide (1 ≤ xs.length) && decide (xs.length ≤ 4) && xs.all (betB c_MAX_SIZE) && decide ((xs.length : Int) = w))
    cases ha : xs.all (betB c_MAX_SIZE) with
    | false => simp
    | true =>
      have hi : xs.all intB = true := by
        rw [List.all_eq_true] at ha ⊢
        intro x hx
        have h := ha x hx
        cases x with
        | int i =>
          unfold betB at h
          rw [c_max, Bool.and_eq_true, decide_eq_true_eq, decide_eq_true_eq] at h
          exact isI_sz ((sz_max (by omega)).mono (by decide))
        | _ => simp [betB] at h
      have e : rowB (.tup xs) = (decide (1 ≤ xs.length) && decide (xs.length ≤ 4) && xs.all intB) := rfl
      rw [e, hi]
      simp
  | _ => rfl
def tru (L : List Int) : List D := L.map fun _ => D.bl true
theorem tru_add {L : List Int} {q : Int} : setVs (.inl q) (.bl true) (kL L) (tru L) = tru (addK L q) := by
  unfold tru addK
  rw [setV_kL]
  congr 1
  funext b
  split <;> rfl
theorem kL_add {L : List Int} {q : Int} : setKs (.inl q) (kL L) = kL (addK L q) := setK_kL
theorem addK_le {L : List Int} {q : Int} : (addK L q).length ≤ L.length + 1 := by
  unfold addK; split <;> simp
theorem pl_mem {xs : List D} (h : plD (.tup xs) = true) : xs.length ≤ 1000 ∧ ∀ x ∈ xs, plD x = true := by
  rw [plD, Bool.and_eq_true, decide_eq_true_eq, plDs_all] at h
  exact h
theorem line_turn {V X r : D} {L : List Int} {v3 : SV} (hr : plD r = true) (h3 : v3.isIo = false) (hL : L.length ≤ 1000) :
    turnF (.sl 3) y1__law_is_pack [.val V, .dic false (kL L) (tru L), .val X, v3] r = if lineB r = true then .ok .nx [.val V, .dic false (kL (addK L (lenI r))) (tru (addK L (lenI r))), .val X, .val r]
      else .ok (.rt (.bl false)) [.val V, .dic false (kL L) (tru L), .val X, .val r] := by
  refine plD_cases (P := fun r => turnF (.sl 3) y1__law_is_pack [.val V, .dic false (kL L) (tru L), .val X, v3] r = if lineB r = true then .ok .nx [.val V, .dic false (kL (addK L (lenI r))) (tru (addK L (lenI r))), .val X, .val r]
      else .ok (.rt (.bl false)) [.val V, .dic false (kL L) (tru L), .val X, .val r]) hr ?_ ?_ ?_ ?_ ?_ ?_ ?_
  · simp [turnF, y1__law_is_pack, h3, lineB]
  · intro b; simp [turnF, y1__law_is_pack, h3, lineB]
  · intro b; simp [turnF, y1__law_is_pack, h3, lineB]
  · intro b; simp [turnF, y1__law_is_pack, h3, lineB]
  · intro xs hl hx
    have g := g_line hl hx
    have eB : lineB (.tup xs) = (decide (1 ≤ xs.length) && decide (xs.length ≤ 4) && xs.all (betB c_MAX_SIZE)) := rfl
    have eI : lenI (.tup xs) = (xs.length : Int) := rfl
    obtain ⟨B, hB⟩ : ∃ B, B = xs.all (betB c_MAX_SIZE) := ⟨_, rfl⟩
    rw [← hB] at g eB
    have ll : lenD [.tup xs] = .ok (.int (xs.length : Nat)) := rfl
    obtain ⟨a, ha⟩ : ∃ a : Int, a = (xs.length : Int) := ⟨_, rfl⟩
    have d1 : decide (1 ≤ xs.length) = decide ((1 : Int) ≤ a) := by rw [ha]; congr 1; apply propext; omega
    have d4 : decide (xs.length ≤ 4) = decide (a ≤ 4) := by rw [ha]; congr 1; apply propext; omega
    rw [eB, eI, d1, d4]
    rw [← ha] at g ll ⊢
    have kz : (kL L).length < 16777216 := by unfold kL; rw [List.length_map]; omega
    by_cases h1 : (1 : Int) ≤ a
    · by_cases h4 : a ≤ 4
      · cases B with
        | false => simp [turnF, y1__law_is_pack, h3, ll, g, h1, h4]
        | true =>
          have ky : keyD (.int a) = some (.inl a) := rfl
          simp [turnF, y1__law_is_pack, h3, ll, g, h1, h4, xDSet, ky, tru_add, kL_add, sizeLine_eq, kz]
      · simp [turnF, y1__law_is_pack, h3, ll, h1, h4]
    · simp [turnF, y1__law_is_pack, h3, ll, h1]
  · intro xs _ _; simp [turnF, y1__law_is_pack, h3, lineB]
  · simp [turnF, y1__law_is_pack, h3, lineB]
/-- the loop over the rows of a strand -/
theorem lines_loop {V X : D} : ∀ (rs : List D) (L : List Int) (v3 : SV), (∀ r ∈ rs, plD r = true) → v3.isIo = false → L.length + rs.length ≤ 1000 →
    ∃ w3, w3.isIo = false ∧ ((rs.all lineB = true ∧ forM (.sl 3) y1__law_is_pack rs [.val V, .dic false (kL L) (tru L), .val X, v3] = .ok .nx [.val V, .dic false (kL ((rs.map lenI).foldl addK L)) (tru ((rs.map lenI).foldl addK L)), .val X, w3]) ∨
      (rs.all lineB = false ∧ ∃ ρ', forM (.sl 3) y1__law_is_pack rs [.val V, .dic false (kL L) (tru L), .val X, v3] = .ok (.rt (.bl false)) ρ'))
  | [], L, v3, _, h3, _ => ⟨v3, h3, .inl ⟨rfl, by simp⟩⟩
  | r :: rs, L, v3, h, h3, hl => by
    rw [List.length_cons] at hl
    have t := line_turn (V := V) (X := X) (h r (List.mem_cons_self ..)) h3 (L := L) (by omega)
    cases hb : lineB r with
    | false =>
      rw [hb] at t
      exact ⟨.un, rfl, .inr ⟨by rw [List.all_cons, hb]; rfl, _, forM_rt t⟩⟩
    | true =>
      rw [hb, if_pos rfl] at t
      have la := addK_le (L := L) (q := lenI r)
      obtain ⟨w3, g3, q⟩ := lines_loop (V := V) (X := X) rs (addK L (lenI r)) (.val r) (fun x hx => h x (List.mem_cons_of_mem _ hx)) rfl (by omega)
      refine ⟨w3, g3, ?_⟩
      rw [forM_t25 t, List.all_cons, hb, Bool.true_and, List.map_cons, List.foldl_cons]
      exact q
/-- the sign of a strand, as its text tells it -/
def hdB : D → Bool
  | .str s => sgB s
  | _ => false
def HdOk (a : D) : Prop := ∃ t : Str, reprD [a] = .ok (.str t) ∧ ninD (.str t) (.tup [.str (Str.ofString "'more'"), .str (Str.ofString "'least'"), .str (Str.ofString "'null'")]) = .ok (.bl (!hdB a))
def goodB : D → Bool
  | .tup [a, .tup rs] => hdB a && (decide (1 ≤ rs.length) && decide (rs.length ≤ 6)) && rs.all lineB
  | _ => false
def lensL : D → List Int
  | .tup [_, .tup rs] => rs.map lenI
  | _ => []
def HdsOk : D → Prop
  | .tup xs => ∀ x ∈ xs, ∀ a b, x = .tup [a, b] → HdOk a
  | _ => True
theorem strand_turn {V x : D} {L : List Int} {v2 v3 : SV} (hx : plD x = true) (ho : ∀ a b, x = .tup [a, b] → HdOk a) (h2 : v2.isIo = false) (h3 : v3.isIo = false) (hL : L.length ≤ 900) :
    (goodB x = true ∧ (lensL x).length ≤ 6 ∧ ∃ w3, w3.isIo = false ∧ turnF (.sl 2) y2__law_is_pack [.val V, .dic false (kL L) (tru L), v2, v3] x = .ok .nx [.val V, .dic false (kL ((lensL x).foldl addK L)) (tru ((lensL x).foldl addK L)), .val x, w3]) ∨
      (goodB x = false ∧ ∃ ρ', turnF (.sl 2) y2__law_is_pack [.val V, .dic false (kL L) (tru L), v2, v3] x = .ok (.rt (.bl false)) ρ') := by
  have no : ∀ {y : D}, (∀ xs, y = .tup xs → False) → plD y = true → goodB y = false ∧ ∃ ρ', turnF (.sl 2) y2__law_is_pack [.val V, .dic false (kL L) (tru L), v2, v3] y = .ok (.rt (.bl false)) ρ' := fun {y} hn hp => by
    refine ⟨?_, [.val V, .dic false (kL L) (tru L), .val y, v3], ?_⟩
    · cases y with
      | tup xs => exact (hn xs rfl).elim
      | _ => rfl
    · revert hn
      refine plD_cases (P := fun y => (∀ xs, y = .tup xs → False) → turnF (.sl 2) y2__law_is_pack [.val V, .dic false (kL L) (tru L), v2, v3] y = .ok (.rt (.bl false)) [.val V, .dic false (kL L) (tru L), .val y, v3]) hp ?_ ?_ ?_ ?_ ?_ ?_ ?_
      · intro _; simp [turnF, y2__law_is_pack, h2]
      · intro b _; simp [turnF, y2__law_is_pack, h2]
      · intro b _; simp [turnF, y2__law_is_pack, h2]
      · intro b _; simp [turnF, y2__law_is_pack, h2]
      · intro xs _ _ hn; exact (hn xs rfl).elim
      · intro xs _ _ _; simp [turnF, y2__law_is_pack, h2]
      · intro _; simp [turnF, y2__law_is_pack, h2]
  cases x with
  | tup xs =>
    obtain ⟨hl, hm⟩ := pl_mem hx
    match xs, hl, hm with
    | [], _, _ => exact .inr ⟨rfl, [.val V, .dic false (kL L) (tru L), .val (.tup []), v3], by simp [turnF, y2__law_is_pack, h2]⟩
    | [a], _, _ => exact .inr ⟨rfl, [.val V, .dic false (kL L) (tru L), .val (.tup [a]), v3], by simp [turnF, y2__law_is_pack, h2]⟩
    | a :: b :: c :: r, hl, _ =>
      have z : ¬ ((r.length : Int) + 1 + 1 + 1 = 2) := by omega
      exact .inr ⟨by simp [goodB], [.val V, .dic false (kL L) (tru L), .val (.tup (a :: b :: c :: r)), v3], by simp [turnF, y2__law_is_pack, h2, z]⟩
    | [a, b], _, hm =>
      have hb := hm b (by simp)
      obtain ⟨t, er, en⟩ := ho a b rfl
      obtain ⟨TT, hTT⟩ : ∃ TT, TT = D.tup [.str (Str.ofString "'more'"), .str (Str.ofString "'least'"), .str (Str.ofString "'null'")] := ⟨_, rfl⟩
      have eT : tupD [.str (Str.ofString "'more'"), .str (Str.ofString "'least'"), .str (Str.ofString "'null'")] = .ok TT := by rw [hTT]; exact tupD_of (by rw [sizeLine_eq]; decide)
      rw [← hTT] at en
      have i0 : ixD (.tup [a, b]) (.int 0) = .ok a := ixD_tup rfl
      have i1 : ixD (.tup [a, b]) (.int 1) = .ok b := ixD_tup rfl
      obtain ⟨P, hP⟩ : ∃ P, P = D.tup [a, b] := ⟨_, rfl⟩
      have lP : lenD [P] = .ok (.int 2) := by rw [hP]; rfl
      have iP : isiD [P, .opq (.ty "tuple")] = .ok (.bl true) := by rw [hP]; rfl
      have eG : goodB P = goodB (.tup [a, b]) := by rw [hP]
      have eL : lensL P = lensL (.tup [a, b]) := by rw [hP]
      rw [← hP] at i0 i1 ⊢
      cases hh : hdB a with
      | false =>
        rw [hh] at en
        refine .inr ⟨by rw [eG]; cases b <;> simp [goodB, hh], [.val V, .dic false (kL L) (tru L), .val P, v3], ?_⟩
        simp [turnF, y2__law_is_pack, h2, lP, iP, i0, er, eT, en]
      | true =>
        rw [hh] at en
        by_cases ht : ∃ rs, b = .tup rs
        · obtain ⟨rs, rfl⟩ := ht
          obtain ⟨lr, hr⟩ := pl_mem hb
          have ll : lenD [.tup rs] = .ok (.int (rs.length : Nat)) := rfl
          obtain ⟨n, hn⟩ : ∃ n : Int, n = (rs.length : Int) := ⟨_, rfl⟩
          have ll : lenD [.tup rs] = .ok (.int n) := by rw [hn]; exact ll
          have eg : goodB P = ((decide (1 ≤ rs.length) && decide (rs.length ≤ 6)) && rs.all lineB) := by rw [eG]; simp [goodB, hh]
          have d1 : decide (1 ≤ rs.length) = decide ((1 : Int) ≤ n) := by rw [hn]; congr 1; apply propext; omega
          have d6 : decide (rs.length ≤ 6) = decide (n ≤ 6) := by rw [hn]; congr 1; apply propext; omega
          have iR : isiD [.tup rs, .opq (.ty "tuple")] = .ok (.bl true) := rfl
          by_cases c1 : (1 : Int) ≤ n
          · by_cases c6 : n ≤ 6
            · obtain ⟨w3, g3, q⟩ := lines_loop (V := V) (X := P) rs L v3 hr h3 (by omega)
              have wk : mWalk (m2 ixD (mVar 2) (mC (.int 1))) [.val V, .dic false (kL L) (tru L), .val P, v3] = .ok rs [.val V, .dic false (kL L) (tru L), .val P, v3] := by simp [i1]
              rcases q with ⟨qa, qe⟩ | ⟨qa, ρ', qe⟩
              · refine .inl ⟨by rw [eg, d1, d6, qa]; simp [c1, c6], by rw [eL]; show (rs.map lenI).length ≤ 6; rw [List.length_map]; omega, w3, g3, ?_⟩
                have e : lensL P = rs.map lenI := by rw [eL]; rfl
                rw [e]
                simp [turnF, y2__law_is_pack, f1__law_is_pack, h2, lP, iP, i0, i1, er, eT, en, iR, ll, c1, c6, qe]
              · refine .inr ⟨by rw [eg, qa]; simp, ρ', ?_⟩
                simp [turnF, y2__law_is_pack, f1__law_is_pack, h2, lP, iP, i0, i1, er, eT, en, iR, ll, c1, c6, qe]
            · exact .inr ⟨by rw [eg, d6]; simp [c6], [.val V, .dic false (kL L) (tru L), .val P, v3], by simp [turnF, y2__law_is_pack, h2, lP, iP, i0, i1, er, eT, en, iR, ll, c1, c6]⟩
          · exact .inr ⟨by rw [eg, d1]; simp [c1], [.val V, .dic false (kL L) (tru L), .val P, v3], by simp [turnF, y2__law_is_pack, h2, lP, iP, i0, i1, er, eT, en, iR, ll, c1]⟩
        · have iB : isiD [b, .opq (.ty "tuple")] = .ok (.bl false) := by
            revert ht
            refine plD_cases (P := fun b => (¬ ∃ rs, b = .tup rs) → isiD [b, .opq (.ty "tuple")] = .ok (.bl false)) hb ?_ ?_ ?_ ?_ ?_ ?_ ?_ <;> first | (intro xs _ _ z; exact (z ⟨xs, rfl⟩).elim) | (intros; rfl)
          refine .inr ⟨?_, [.val V, .dic false (kL L) (tru L), .val P, v3], by simp [turnF, y2__law_is_pack, h2, lP, iP, i0, i1, er, eT, en, iB]⟩
          rw [eG]
          cases b with
          | tup rs => exact (ht ⟨rs, rfl⟩).elim
          | _ => simp [goodB]
  | _ => exact .inr (no (fun xs e => by cases e) hx)
end Pm
namespace Pm
open PySem PySem.Spec PyProof.Rows L2 Mr
theorem strands_loop {V : D} : ∀ (xs : List D) (L : List Int) (v2 v3 : SV), (∀ x ∈ xs, plD x = true) → (∀ x ∈ xs, ∀ a b, x = .tup [a, b] → HdOk a) → v2.isIo = false → v3.isIo = false → L.length + 6 * xs.length ≤ 900 →
    (xs.all goodB = true ∧ ∃ w2 w3, forM (.sl 2) y2__law_is_pack xs [.val V, .dic false (kL L) (tru L), v2, v3] = .ok .nx [.val V, .dic false (kL ((xs.flatMap lensL).foldl addK L)) (tru ((xs.flatMap lensL).foldl addK L)), w2, w3]) ∨
      (xs.all goodB = false ∧ ∃ ρ', forM (.sl 2) y2__law_is_pack xs [.val V, .dic false (kL L) (tru L), v2, v3] = .ok (.rt (.bl false)) ρ')
  | [], L, v2, v3, _, _, _, _, _ => .inl ⟨rfl, v2, v3, by simp⟩
  | x :: xs, L, v2, v3, h, ho, h2, h3, hl => by
    rw [List.length_cons] at hl
    rcases strand_turn (V := V) (h x (List.mem_cons_self ..)) (ho x (List.mem_cons_self ..)) h2 h3 (L := L) (by omega) with ⟨g, l6, w3, g3, t⟩ | ⟨g, ρ', t⟩
    · have lf : ∀ (q : List Int) (L : List Int), (q.foldl addK L).length ≤ L.length + q.length := fun q => by
        induction q with
        | nil => intro L; simp
        | cons b q ih => intro L; rw [List.foldl_cons, List.length_cons]; have := ih (addK L b); have := addK_le (L := L) (q := b); omega
      have la := lf (lensL x) L
      have q := strands_loop (V := V) xs ((lensL x).foldl addK L) (.val x) w3 (fun y hy => h y (List.mem_cons_of_mem _ hy)) (fun y hy => ho y (List.mem_cons_of_mem _ hy)) rfl g3 (by omega)
      rw [forM_t25 t, List.all_cons, g, Bool.true_and, List.flatMap_cons, List.foldl_append]
      exact q
    · exact .inr ⟨by rw [List.all_cons, g]; rfl, ρ', forM_rt t⟩
theorem mem_fold {b : Int} : ∀ (q L : List Int), b ∈ q.foldl addK L ↔ b ∈ L ∨ b ∈ q
  | [], L => by simp
  | c :: q, L => by
    rw [List.foldl_cons, mem_fold q (addK L c), List.mem_cons]
    have : b ∈ addK L c ↔ b ∈ L ∨ b = c := by
      unfold addK
      split
      · rename_i h
        have : c ∈ L := by simpa using h
        constructor
        · exact .inl
        · rintro (z | rfl)
          · exact z
          · exact this
      · simp
    rw [this, or_assoc]
theorem nodup_fold : ∀ (q L : List Int), L.Nodup → (q.foldl addK L).Nodup
  | [], L, h => h
  | c :: q, L, h => by
    rw [List.foldl_cons]
    refine nodup_fold q _ ?_
    unfold addK
    split
    · exact h
    · rename_i hc
      have : c ∉ L := by simpa using hc
      rw [List.nodup_append]
      exact ⟨h, by simp, fun a ha b hb z => this (by rw [List.mem_singleton.mp hb] at z; exact z ▸ ha)⟩
theorem one_len (q : List Int) : (q.foldl addK []).length = 1 ↔ ∃ w, w ∈ q ∧ ∀ b ∈ q, b = w := by
  have hm := fun b => mem_fold (b := b) q []
  have hn := nodup_fold q [] List.nodup_nil
  constructor
  · intro h
    match e : q.foldl addK [], h with
    | [w], _ =>
      rw [e] at hm
      refine ⟨w, by simpa using (hm w).mp (by simp), fun b hb => by simpa using (hm b).mpr (.inr hb)⟩
  · rintro ⟨w, hw, ha⟩
    have m := (hm w).mpr (.inr hw)
    match e : q.foldl addK [] with
    | [] => rw [e] at m; cases m
    | [a] => rfl
    | a :: b :: r =>
      rw [e] at hm hn
      have ea : a = w := ha a (by simpa using (hm a).mp (by simp))
      have eb : b = w := ha b (by simpa using (hm b).mp (by simp))
      subst ea eb
      simp at hn
theorem rows_line {w : Int} : ∀ rs : List D, rs.all (rowWB w c_MAX_SIZE) = (rs.all lineB && (rs.map lenI).all fun b => decide (b = w))
  | [] => rfl
  | r :: rs => by
    rw [List.all_cons, List.all_cons, List.map_cons, List.all_cons, rowW_line, rows_line rs]
    cases lineB r <;> cases decide (lenI r = w) <;> simp
theorem strandB_good' {w : Int} (x : D) : strandB w x = (goodB x && (lensL x).all fun b => decide (b = w)) := by
  cases x with
  | tup xs =>
    match xs with
    | [] => rfl
    | [a] => cases a <;> rfl
    | a :: b :: c :: r => cases a <;> simp [strandB, goodB]
    | [a, b] =>
      cases a with
      | str s =>
        cases b with
        | tup rs =>
          have e1 : strandB w (.tup [.str s, .tup rs]) = (sgB s && (decide (1 ≤ rs.length) && decide (rs.length ≤ 6) && rs.all (rowWB w c_MAX_SIZE))) := rfl
          have e2 : goodB (.tup [.str s, .tup rs]) = (sgB s && (decide (1 ≤ rs.length) && decide (rs.length ≤ 6)) && rs.all lineB) := rfl
          have e3 : lensL (.tup [.str s, .tup rs]) = rs.map lenI := rfl
          have e4 := rows_line (w := w) rs
          rw [e1, e2, e3, e4]
          cases sgB s <;> simp [Bool.and_assoc]
        | _ => simp [strandB, rowsB, goodB]
      | _ => cases b <;> simp [strandB, goodB, hdB]
  | _ => rfl
theorem len_good {x : D} (h : goodB x = true) : lensL x ≠ [] ∧ ∀ b ∈ lensL x, b = 1 ∨ b = 2 ∨ b = 3 ∨ b = 4 := by
  match x, h with
  | .tup [a, .tup rs], h =>
    unfold goodB at h
    rw [Bool.and_eq_true, Bool.and_eq_true, Bool.and_eq_true, decide_eq_true_eq, decide_eq_true_eq, List.all_eq_true] at h
    obtain ⟨⟨_, h1, _⟩, ha⟩ := h
    have e3 : lensL (.tup [a, .tup rs]) = rs.map lenI := rfl
    rw [e3]
    refine ⟨fun z => by rw [List.map_eq_nil_iff] at z; rw [z] at h1; simp at h1, fun b hb => ?_⟩
    obtain ⟨r, hr, rfl⟩ := List.mem_map.mp hb
    have q := ha r hr
    cases r with
    | tup ns =>
      unfold lineB at q
      rw [Bool.and_eq_true, Bool.and_eq_true, decide_eq_true_eq, decide_eq_true_eq] at q
      show (ns.length : Int) = 1 ∨ (ns.length : Int) = 2 ∨ (ns.length : Int) = 3 ∨ (ns.length : Int) = 4
      omega
    | _ => simp [lineB] at q
theorem strandsB_one {xs : List D} (h1 : 1 ≤ xs.length) (h12 : xs.length ≤ 12) : strandsB (.tup xs) = (xs.all goodB && decide (((xs.flatMap lensL).foldl addK []).length = 1)) := by
  have e : strandsB (.tup xs) = (decide (1 ≤ xs.length) && decide (xs.length ≤ 12) && [1, 2, 3, 4].any fun w => xs.all (strandB w)) := rfl
  rw [e, decide_eq_true h1, decide_eq_true h12, Bool.eq_iff_iff]
  simp only [Bool.true_and, Bool.and_eq_true, decide_eq_true_eq, List.any_eq_true, List.all_eq_true, one_len]
  constructor
  · rintro ⟨w, hw, ha⟩
    have hg : ∀ x ∈ xs, goodB x = true ∧ ∀ b ∈ lensL x, b = w := fun x hx => by
      have q := ha x hx
      rw [strandB_good', Bool.and_eq_true, List.all_eq_true] at q
      exact ⟨q.1, fun b hb => of_decide_eq_true (q.2 b hb)⟩
    refine ⟨fun x hx => (hg x hx).1, w, ?_, fun b hb => ?_⟩
    · match xs, h1 with
      | x :: xs, _ =>
        obtain ⟨g, hb⟩ := hg x (List.mem_cons_self ..)
        obtain ⟨ne, _⟩ := len_good g
        match el : lensL x, ne with
        | b :: r, _ =>
          rw [el] at hb
          rw [List.flatMap_cons, el, hb b (List.mem_cons_self ..)]
          simp
    · obtain ⟨x, hx, hb⟩ := List.mem_flatMap.mp hb
      exact (hg x hx).2 b hb
  · rintro ⟨hg, w, hw, ha⟩
    obtain ⟨x, hx, hb⟩ := List.mem_flatMap.mp hw
    have w4 := (len_good (hg x hx)).2 w hb
    refine ⟨w, by simp; omega, fun y hy => ?_⟩
    rw [strandB_good', Bool.and_eq_true, List.all_eq_true]
    exact ⟨hg y hy, fun b hb => decide_eq_true (ha b (List.mem_flatMap.mpr ⟨y, hy, hb⟩))⟩
theorem g_is_pack {d : D} (h : plD d = true) (ho : HdsOk d) : m__law_is_pack [d] = .ok (.bl (strandsB d)) := by
  unfold m__law_is_pack b__law_is_pack f2__law_is_pack runF
  revert ho
  refine plD_cases (P := fun d => HdsOk d → (match (xSeq (xIf (tOr (tNot (tOf (mL isiD (mCons (mVar 0) (mCons (mC (.opq (.ty "tuple"))) mNil))))) (tNot (tOf (mChain leD leD (mC (.int 1)) (mL lenD (mCons (mVar 0) mNil)) (mC (.int 12)))))) (xRet (mC (.bl false))) xNx)
    (xSeq (xOwnD 1 mD0) (xSeq (xFor (mWalk (mVar 0)) (.sl 2) y2__law_is_pack) (xRet (m2 eqD (mLenDN 1) (mC (.int 1))))))) [.val d, .un, .un, .un] with
    | .ok .nx _ => FR.ok D.non
    | .ok (.rt d) _ => .ok d
    | .exc x _ => .exc x
    | _ => .stuck) = .ok (.bl (strandsB d))) h ?_ ?_ ?_ ?_ ?_ ?_ ?_
  · intro _; simp [strandsB]
  · intro b _; simp [strandsB]
  · intro b _; simp [strandsB]
  · intro b _; simp [strandsB]
  · intro xs hl hx ho
    have ll : lenD [.tup xs] = .ok (.int (xs.length : Nat)) := rfl
    obtain ⟨n, hn⟩ : ∃ n : Int, n = (xs.length : Int) := ⟨_, rfl⟩
    have ll : lenD [.tup xs] = .ok (.int n) := by rw [hn]; exact ll
    by_cases c1 : (1 : Int) ≤ n
    · by_cases c12 : n ≤ 12
      · rw [strandsB_one (by omega) (by omega)]
        have e0 : xOwnD 1 mD0 [.val (.tup xs), .un, .un, .un] = .ok .nx [.val (.tup xs), .dic false (kL []) (tru []), .un, .un] := by simp [xOwnD, mD0, kL, tru]
        rcases strands_loop (V := .tup xs) xs [] .un .un hx ho rfl rfl (by simp; omega) with ⟨g, w2, w3, e⟩ | ⟨g, ρ', e⟩
        · rw [g]
          obtain ⟨K, hK⟩ : ∃ K, K = (xs.flatMap lensL).foldl addK [] := ⟨_, rfl⟩
          rw [← hK] at e ⊢
          have kl : (kL K).length = K.length := by unfold kL; simp
          have sd : decide ((K.length : Int) = 1) = decide (K.length = 1) := by congr 1; apply propext; omega
          simp [ll, c1, c12, e0, e, mLenDN, kl]
          constructor <;> intro z <;> omega
        · rw [g]
          simp [ll, c1, c12, e0, e]
      · have z : strandsB (.tup xs) = false := by
          have : ¬ xs.length ≤ 12 := by omega
          simp [strandsB, this]
        rw [z]
        simp [ll, c1, c12]
    · have z : strandsB (.tup xs) = false := by
        have : ¬ 1 ≤ xs.length := by omega
        simp [strandsB, this]
      rw [z]
      simp [ll, c1]
  · intro xs _ _ _; simp [strandsB]
  · intro _; simp [strandsB]
end Pm
namespace Pm
open PySem PySem.Spec PyProof.Rows L2 Mr
theorem nin3 (t q1 q2 q3 : Str) : ninD (.str t) (.tup [.str q1, .str q2, .str q3]) = .ok (.bl (!((q1 == t) || ((q2 == t) || ((q3 == t) || false))))) := by
  have e : ninD (.str t) (.tup [.str q1, .str q2, .str q3]) = if okD 12 (.str t) = true ∧ okDs 12 [D.str q1, .str q2, .str q3] = true then .ok (.bl (![D.str q1, .str q2, .str q3].any fun y => eqv y (.str t))) else .stuck := id rfl
  rw [e, if_pos ⟨by simp, by simp⟩]
  rfl
theorem tup_first {xs : List D} : ((py (.tup xs)).shown).cps[0]? = some 40 := by
  show ((PyData.tuple (pys xs)).shown).cps[0]? = _
  rw [PyData.shown_tuple]
  obtain ⟨a, ha⟩ : ∃ a, a = Str.join ", " (PyData.shownAll (pys xs)) := ⟨_, rfl⟩
  obtain ⟨b, hb⟩ : ∃ b : Str, b = ((if (pys xs).length == 1 then ",)" else ")" : String) : Str) := ⟨_, rfl⟩
  rw [← ha, ← hb]
  show ((("(" : Str).cps ++ a.cps) ++ b.cps)[0]? = some 40
  have e : ("(" : Str).cps = #[40] := by decide +kernel
  rw [e]
  rw [Array.getElem?_append_left (by simp; omega), Array.getElem?_append_left (by simp)]
  rfl
theorem hd_tup {xs : List D} {W : Nat} (h : ShW W (.tup xs)) (hk : okD 12 (.tup xs) = true) (hW : W ≤ 16000000) : HdOk (.tup xs) := by
  refine ⟨_, e_repr h hk hW, ?_⟩
  rw [nin3]
  have ne : ∀ q : Str, q.cps[0]? = some 39 → (q == (py (.tup xs)).shown) = false := fun q hq => by
    rw [beq_eq_false_iff_ne]
    intro z
    have := tup_first (xs := xs)
    rw [← z, hq] at this
    cases this
  rw [ne _ (by decide +kernel), ne _ (by decide +kernel), ne _ (by decide +kernel)]
  rfl
theorem hd_sg (g : Sg) : HdOk (.str g.s) := by
  cases g
  · exact ⟨Str.ofString "'more'", by kernel_rfl, by kernel_rfl⟩
  · exact ⟨Str.ofString "'least'", by kernel_rfl, by kernel_rfl⟩
  · exact ⟨Str.ofString "'null'", by kernel_rfl, by kernel_rfl⟩
def words28 : List D := [.str (Str.ofString "More"), .str (Str.ofString ""), .non, .int 0, .str (Str.ofString "less"), .tup [.str (Str.ofString "more")], .str (Str.ofString "null"), .str (Str.ofString "least")]
theorem hd_words : ∀ a ∈ words28, HdOk a ∧ plD a = true ∧ okD 10 a = true := fun a ha => by
  simp only [words28, List.mem_cons, List.not_mem_nil, or_false] at ha
  rcases ha with rfl | rfl | rfl | rfl | rfl | rfl | rfl | rfl
  · exact ⟨⟨Str.ofString "'More'", by kernel_rfl, by kernel_rfl⟩, rfl, rfl⟩
  · exact ⟨⟨Str.ofString "''", by kernel_rfl, by kernel_rfl⟩, rfl, rfl⟩
  · exact ⟨⟨Str.ofString "None", by kernel_rfl, by kernel_rfl⟩, rfl, rfl⟩
  · exact ⟨⟨Str.ofString "0", by kernel_rfl, by kernel_rfl⟩, rfl, rfl⟩
  · exact ⟨⟨Str.ofString "'less'", by kernel_rfl, by kernel_rfl⟩, rfl, rfl⟩
  · exact ⟨⟨Str.ofString "('more',)", by kernel_rfl, by kernel_rfl⟩, rfl, rfl⟩
  · exact ⟨⟨Str.ofString "'null'", by kernel_rfl, by kernel_rfl⟩, rfl, rfl⟩
  · exact ⟨⟨Str.ofString "'least'", by kernel_rfl, by kernel_rfl⟩, rfl, rfl⟩
theorem hd_lines {n : Nat} {s : Strand} (h : StrandOk n s) (h1 : 1 ≤ n) (h4 : n ≤ 4) : HdOk (.tup (s.rows.map rowD)) := by
  refine hd_tup (W := s.rows.length * (4 * 1923 + 4 + 2) + 4) ?_ (okDs_all (n := 11) fun z hz => by obtain ⟨r, _, rfl⟩ := List.mem_map.mp hz; simp) (by have := h.le; omega)
  have q := sh_tup (W := 4 * 1923 + 4) (xs := s.rows.map rowD) fun x hx => by
    obtain ⟨r, hr, rfl⟩ := List.mem_map.mp hx
    have hrow := h.row r hr
    exact (sh_row fun y hy => (sz_max (hrow.2 y hy)).mono (by decide)).mono (by omega)
  rwa [List.length_map] at q
/-- an item of a value near: plain, not deep, its head has a text -/
def It28 (x : D) : Prop := plD x = true ∧ okD 11 x = true ∧ ∀ a b, x = .tup [a, b] → HdOk a
theorem it_sD {n : Nat} {s : Strand} (h : StrandOk n s) (h1 : 1 ≤ n) (h4 : n ≤ 4) : It28 (sD s) :=
  ⟨pl_sD h h4, okDs_all (n := 10) fun z hz => by
    simp only [List.mem_cons, List.not_mem_nil, or_false] at hz
    rcases hz with rfl | rfl
    · rfl
    · exact okDs_all (n := 9) fun y hy => by obtain ⟨r, _, rfl⟩ := List.mem_map.mp hy; exact okDs_all (n := 8) fun u hu => by obtain ⟨i, _, rfl⟩ := List.mem_map.mp hu; rfl, fun a b e => by
    have e : D.tup [.str s.g.s, .tup (s.rows.map rowD)] = .tup [a, b] := e
    injection e with e
    injection e with e1 e2
    rw [← e1]; exact hd_sg s.g⟩
/-- plain and not deep -/
def Pk (n : Nat) (x : D) : Prop := plD x = true ∧ okD n x = true
theorem Pk.tup {n : Nat} {xs : List D} (hl : xs.length ≤ 1000) (h : ∀ x ∈ xs, Pk n x) : Pk (n + 1) (.tup xs) := ⟨pl_tup hl fun x hx => (h x hx).1, okDs_all (n := n) fun x hx => (h x hx).2⟩
theorem Pk.lst {n : Nat} {xs : List D} (hl : xs.length ≤ 1000) (h : ∀ x ∈ xs, Pk n x) : Pk (n + 1) (.lst xs) := ⟨pl_lst hl fun x hx => (h x hx).1, okDs_all (n := n) fun x hx => (h x hx).2⟩
theorem pk_ints {n : Nat} {r : List Int} : ∀ x ∈ r.map D.int, Pk n x := fun x hx => by obtain ⟨i, _, rfl⟩ := List.mem_map.mp hx; exact ⟨rfl, by cases n <;> rfl⟩
theorem it_two {a b : D} (ha : Pk 10 a) (hb : Pk 10 b) (h : HdOk a) : It28 (.tup [a, b]) := by
  obtain ⟨p, q⟩ := Pk.tup (n := 10) (xs := [a, b]) (by simp) fun x hx => by
    simp only [List.mem_cons, List.not_mem_nil, or_false] at hx
    rcases hx with rfl | rfl
    · exact ha
    · exact hb
  refine ⟨p, q, fun a' b' e => ?_⟩
  injection e with e
  injection e with e1 e2
  rw [← e1]; exact h
end Pm
namespace Pm
open PySem PySem.Spec PyProof.Rows L2 Mr
theorem mul_tupS {xs : List D} {k : Nat} (hx : xs ≠ []) (h2 : 2 ≤ k) (hk : k ≤ 1000) (hl : xs.length ≤ 1000) : mulD (.tup xs) (.int k) = .ok (.tup (List.replicate k xs).flatten) := by
  show (if (k : Int) = 1 then FR.ok (D.tup xs) else if _ then _ else if _ then FR.ok (D.tup (List.replicate (k : Int).toNat xs).flatten) else .stuck) = _
  rw [if_neg (by omega), if_neg (by rintro ⟨_, _, z⟩; omega), if_pos ⟨hx, by omega, by omega, hl⟩, Int.toNat_natCast]
theorem rep_mem {α : Type} {xs : List α} {k : Nat} {x : α} (h : x ∈ (List.replicate k xs).flatten) : x ∈ xs := by
  obtain ⟨l, hl, hx⟩ := List.mem_flatten.mp h
  rw [List.eq_of_mem_replicate hl] at hx
  exact hx
theorem rep_len {α : Type} {xs : List α} {k : Nat} : (List.replicate k xs).flatten.length = k * xs.length := by
  induction k with
  | zero => simp
  | succ k ih => rw [List.replicate_succ, List.flatten_cons, List.length_append, ih, Nat.succ_mul]; omega
theorem cut_mem {xs : List D} {a b : Option Int} {x : D} (h : x ∈ Mr.cutD xs a b) : x ∈ xs := List.mem_of_mem_drop (List.mem_of_mem_take h)
theorem cut_len {xs : List D} {a b : Option Int} : (Mr.cutD xs a b).length ≤ xs.length := by
  unfold Mr.cutD
  rw [List.length_take, List.length_drop]; omega
/-- the value with d in place of what stands at k -/
def chX (xs : List D) (k : Nat) (d : D) : D := .tup (xs.take k ++ [d] ++ xs.drop (k + 1))
theorem pk_ch {n : Nat} {xs : List D} {k : Nat} {d : D} (hl : xs.length ≤ 100) (h : ∀ x ∈ xs, Pk n x) (hd : Pk n d) : Pk (n + 1) (chX xs k d) := Pk.tup (by simp; omega) fun x hx => by
  rcases List.mem_append.mp hx with hx | hx
  · rcases List.mem_append.mp hx with hx | hx
    · exact h x (List.mem_of_mem_take hx)
    · rw [List.mem_singleton.mp hx]; exact hd
  · exact h x (List.mem_of_mem_drop hx)
theorem ch_eval {xs : List D} {k : Nat} {d : D} (hl : xs.length ≤ 100) : sliceD (.tup xs) none (some (k : Int)) = .ok (.tup (xs.take k)) ∧ addD (.tup (xs.take k)) (.tup [d]) = .ok (.tup (xs.take k ++ [d])) ∧
    sliceD (.tup xs) (some ((k : Int) + 1)) none = .ok (.tup (xs.drop (k + 1))) ∧ addD (.tup (xs.take k ++ [d])) (.tup (xs.drop (k + 1))) = .ok (chX xs k d) := by
  have lA : (xs.take k).length ≤ 100 := by rw [List.length_take]; omega
  have lB : (xs.drop (k + 1)).length ≤ 100 := by rw [List.length_drop]; omega
  refine ⟨?_, add_tupS (by simp; omega), ?_, add_tupS (by simp; omega)⟩
  · show FR.ok (D.tup (Mr.cutD _ _ (some (k : Int)))) = _
    rw [cut_take]
  · show FR.ok (D.tup (Mr.cutD _ (some ((k + 1 : Nat) : Int)) _)) = _
    rw [cut_drop]
def five28 : List D := [.bl true, .non, .str (Str.ofString "0"), .int (1 - T20), .int T60]
theorem five_pk {n : Nat} : ∀ d ∈ five28, Pk n d := fun d hd => by
  simp only [five28, List.mem_cons, List.not_mem_nil, or_false] at hd
  rcases hd with rfl | rfl | rfl | rfl | rfl <;> exact ⟨rfl, by cases n <;> rfl⟩
theorem q1_28 {ys : List D} {P G : D} {R r S : List D} {k : Nat} (hl : r.length ≤ 100) :
    q1__law_bent_strand [.own true ys, .val P, .val (.lst S), .un, .val G, .val (.tup R), .val (.tup r), .val (.int (k : Nat)), .un, .un] = .ok (five28.map (chX r k)) [.own true ys, .val P, .val (.lst S), .un, .val G, .val (.tup R), .val (.tup r), .val (.int (k : Nat)), .un, .un] := by
  have key := lcM_same (vs := [1]) (t := .sl 1) (el := e1__law_bent_strand) (ρ := [.own true ys, .val P, .val (.lst S), .un, .val G, .val (.tup R), .val (.tup r), .val (.int (k : Nat)), .un, .un]) five28 (chX r k) rfl (by decide) fun x _ => by
    obtain ⟨a1, a2, a3, a4⟩ := ch_eval (xs := r) (k := k) (d := x) hl
    obtain ⟨A, hA⟩ : ∃ A, A = r.take k := ⟨_, rfl⟩
    obtain ⟨B, hB⟩ : ∃ B, B = r.drop (k + 1) := ⟨_, rfl⟩
    rw [← hA] at a1 a2 a4
    rw [← hB] at a3 a4
    simp [turnM, e1__law_bent_strand, a1, a2, a3, a4, tupD_of, sizeLine_eq]
  have sub : subD (.int 1) (.int T20) = .ok (.int (1 - T20)) := by kernel_rfl
  unfold q1__law_bent_strand
  unfold five28 at key ⊢
  obtain ⟨F, hF⟩ : ∃ F, F = chX r k := ⟨_, rfl⟩
  rw [← hF] at key ⊢
  simp only [List.map_cons, List.map_nil] at key ⊢
  obtain ⟨z20, h20⟩ : ∃ z, z = 1 - T20 := ⟨_, rfl⟩
  rw [← h20] at sub key ⊢
  simp [pow20, sub, tupD_of, sizeLine_eq, key]
/-- the strand with d as its last row -/
def lastX (G : D) (C : List D) (d : D) : D := .tup [G, .tup (C ++ [d])]
theorem q2_28 {ys : List D} {P G : D} {R r S C : List D} {k : Nat} (hR : R.length ≤ 100) (hS : S.length ≤ 100) (hC : sliceD (.tup R) none (some (-1)) = .ok (.tup C)) (lC : C.length ≤ 100) :
    q2__law_bent_strand [.own true ys, .val P, .val (.lst S), .un, .val G, .val (.tup R), .val (.tup r), .val (.int (k : Nat)), .un, .un] = .ok (S.map (lastX G C)) [.own true ys, .val P, .val (.lst S), .un, .val G, .val (.tup R), .val (.tup r), .val (.int (k : Nat)), .un, .un] := by
  have key := lcM_same (vs := [8]) (t := .sl 8) (el := e2__law_bent_strand) (ρ := [.own true ys, .val P, .val (.lst S), .un, .val G, .val (.tup R), .val (.tup r), .val (.int (k : Nat)), .un, .un]) S (lastX G C) rfl (by omega) fun x _ => by
    have a2 : addD (.tup C) (.tup [x]) = .ok (.tup (C ++ [x])) := add_tupS (by simp; omega)
    have ng : negD (.int 1) = .ok (.int (-1)) := rfl
    simp [turnM, e2__law_bent_strand, hC, a2, ng, lastX, tupD_of, sizeLine_eq]
  unfold q2__law_bent_strand
  simp [key]
def wordX (R : List D) (a : D) : D := .tup [a, .tup R]
theorem q3_28 {ys : List D} {P G : D} {R r S T : List D} {k : Nat} :
    q3__law_bent_strand [.own true ys, .val P, .val (.lst S), .val (.lst T), .val G, .val (.tup R), .val (.tup r), .val (.int (k : Nat)), .un, .un] = .ok (words28.map (wordX R)) [.own true ys, .val P, .val (.lst S), .val (.lst T), .val G, .val (.tup R), .val (.tup r), .val (.int (k : Nat)), .un, .un] := by
  have key := lcM_same (vs := [9]) (t := .sl 9) (el := e3__law_bent_strand) (ρ := [.own true ys, .val P, .val (.lst S), .val (.lst T), .val G, .val (.tup R), .val (.tup r), .val (.int (k : Nat)), .un, .un]) words28 (wordX R) rfl (by decide) fun x _ => by
    simp [turnM, e3__law_bent_strand, wordX, tupD_of, sizeLine_eq]
  unfold q3__law_bent_strand
  unfold words28 at key ⊢
  obtain ⟨F, hF⟩ : ∃ F, F = wordX R := ⟨_, rfl⟩
  rw [← hF] at key ⊢
  simp only [List.map_cons, List.map_nil] at key ⊢
  simp [tupD_of, sizeLine_eq, key]
theorem ix_neg1 {xs : List D} {d : D} (h : xs[xs.length - 1]? = some d) (h1 : 1 ≤ xs.length) : ixD (.tup xs) (.int (-1)) = .ok d := by
  show (match atI xs (-1) with | some d => FR.ok d | none => .stuck) = _
  have : atI xs (-1) = some d := by
    unfold atI
    rw [show ixN xs.length (-1) = some (xs.length - 1) by unfold ixN; simp; omega]
    simpa using h
  rw [this]
theorem e_bent28 {n : Nat} {s : Strand} {xs : List D} {b : Nat} (hs : StrandOk n s) (h1 : 1 ≤ n) (h4 : n ≤ 4) (h : Bowl b xs) (hb : b < 800000) :
    ∃ x ys, m__law_bent_strand (.own true xs) [sD s] = .ok x (.own true ys) ∧ It28 x ∧ Bowl (b + 2) ys := by
  obtain ⟨R, hR⟩ : ∃ R, R = s.rows.map rowD := ⟨_, rfl⟩
  obtain ⟨G, hG⟩ : ∃ G, G = D.str s.g.s := ⟨_, rfl⟩
  have eS : sD s = .tup [G, .tup R] := by rw [hR, hG]; rfl
  have lR : R.length ≤ 6 := by rw [hR, List.length_map]; exact hs.le
  have neR : R ≠ [] := fun z => by rw [hR, List.map_eq_nil_iff] at z; exact hs.ne z
  -- the last row
  obtain ⟨q, hq⟩ : ∃ q, q = s.rows.getLast hs.ne := ⟨_, rfl⟩
  have mq : q ∈ s.rows := hq ▸ List.getLast_mem hs.ne
  obtain ⟨lq, sq⟩ := hs.row q mq
  obtain ⟨r, hr⟩ : ∃ r, r = q.map D.int := ⟨_, rfl⟩
  have lr : r.length = n := by rw [hr, List.length_map, lq]
  have ixl : ixD (.tup R) (.int (-1)) = .ok (.tup r) := by
    have hl : 1 ≤ s.rows.length := List.length_pos_iff.mpr hs.ne
    have g : R[R.length - 1]? = some (.tup r) := by
      rw [hr, hR, List.length_map, List.getElem?_map, hq, List.getLast_eq_getElem, List.getElem?_eq_getElem (by omega)]; rfl
    exact ix_neg1 g (by rw [hR, List.length_map]; exact hl)
  obtain ⟨k, x1, e1, k1, b1⟩ := e_bit h (m := (r.length : Int)) (by omega) (by omega) (by omega)
  have lnr : lenD [.tup r] = .ok (.int (r.length : Nat)) := rfl
  obtain ⟨C, hC⟩ : ∃ C, C = Mr.cutD R none (some (-1)) := ⟨_, rfl⟩
  have slC : sliceD (.tup R) none (some (-1)) = .ok (.tup C) := by rw [hC]; rfl
  have lC : C.length ≤ 6 := by rw [hC]; exact Nat.le_trans cut_len lR
  obtain ⟨Dr, hDr⟩ : ∃ Dr, Dr = Mr.cutD r none (some (-1)) := ⟨_, rfl⟩
  have slr : sliceD (.tup r) none (some (-1)) = .ok (.tup Dr) := by rw [hDr]; rfl
  have lDr : Dr.length ≤ 4 := by rw [hDr]; exact Nat.le_trans cut_len (by omega)
  have ng : negD (.int 1) = .ok (.int (-1)) := rfl
  have a0 : addD (.tup r) (.tup [.int 0]) = .ok (.tup (r ++ [.int 0])) := add_tupS (by simp; omega)
  obtain ⟨c1, c2, c3, c4⟩ := ch_eval (xs := r) (k := k) (d := .int T20) (by omega)
  obtain ⟨A, hA⟩ : ∃ A, A = r.take k := ⟨_, rfl⟩
  obtain ⟨B, hB⟩ : ∃ B, B = r.drop (k + 1) := ⟨_, rfl⟩
  rw [← hA] at c1 c2 c4
  rw [← hB] at c3 c4
  obtain ⟨X0, hX0⟩ : ∃ X0, X0 = chX r k (.int T20) := ⟨_, rfl⟩
  rw [← hX0] at c4
  obtain ⟨S6, hS6⟩ : ∃ S6, S6 = [D.tup (r ++ [.int 0]), .tup Dr, .lst r, .non, .tup [], X0] := ⟨_, rfl⟩
  obtain ⟨S5, hS5⟩ : ∃ S5, S5 = five28.map (chX r k) := ⟨_, rfl⟩
  have l6 : S6.length = 6 := by rw [hS6]; rfl
  have l5 : S5.length = 5 := by rw [hS5, List.length_map]; rfl
  have ad1 : addD (.lst S6) (.lst S5) = .ok (.lst (S6 ++ S5)) := add_lstS (by omega)
  obtain ⟨S, hS⟩ : ∃ S, S = S6 ++ S5 := ⟨_, rfl⟩
  rw [← hS] at ad1
  have lS : S.length = 11 := by rw [hS, List.length_append]; omega
  obtain ⟨T1, hT1⟩ : ∃ T1, T1 = S.map (lastX G C) := ⟨_, rfl⟩
  have lT1 : T1.length = 11 := by rw [hT1, List.length_map, lS]
  obtain ⟨T2, hT2⟩ : ∃ T2, T2 = words28.map (wordX R) := ⟨_, rfl⟩
  have lT2 : T2.length = 8 := by rw [hT2, List.length_map]; rfl
  have ad2 : addD (.lst T1) (.lst T2) = .ok (.lst (T1 ++ T2)) := add_lstS (by omega)
  obtain ⟨T, hT⟩ : ∃ T, T = T1 ++ T2 := ⟨_, rfl⟩
  rw [← hT] at ad2
  have lT : T.length = 19 := by rw [hT, List.length_append]; omega
  have ix0 : ∃ r0, ixD (.tup R) (.int 0) = .ok r0 ∧ r0 ∈ R := by
    match R, neR with
    | r0 :: _, _ => exact ⟨r0, ixD_tup rfl, List.mem_cons_self ..⟩
  obtain ⟨r0, ix0, mr0⟩ := ix0
  obtain ⟨U7, hU7⟩ : ∃ U7, U7 = [D.tup [G, .tup []], .tup [G, .lst R], .tup [G, r0], .tup [G], .lst [G, .tup R], .tup [.tup R, G], .non] := ⟨_, rfl⟩
  have ad3 : addD (.lst T) (.lst U7) = .ok (.lst (T ++ U7)) := add_lstS (by rw [lT, hU7]; simp)
  obtain ⟨U, hU⟩ : ∃ U, U = T ++ U7 := ⟨_, rfl⟩
  rw [← hU] at ad3
  have lU : U.length = 26 := by rw [hU, List.length_append, lT, hU7]; rfl
  have m6 := mul_tupS (xs := R) (k := 6) neR (by decide) (by decide) (by omega)
  have m7 := mul_tupS (xs := R) (k := 7) neR (by decide) (by decide) (by omega)
  obtain ⟨R6, hR6⟩ : ∃ R6, R6 = (List.replicate 6 R).flatten := ⟨_, rfl⟩
  obtain ⟨R7, hR7⟩ : ∃ R7, R7 = (List.replicate 7 R).flatten := ⟨_, rfl⟩
  rw [← hR6] at m6
  rw [← hR7] at m7
  have m6 : mulD (.tup R) (.int 6) = .ok (.tup R6) := m6
  have m7 : mulD (.tup R) (.int 7) = .ok (.tup R7) := m7
  obtain ⟨Q6, hQ6⟩ : ∃ Q6, Q6 = Mr.cutD R6 none (some 6) := ⟨_, rfl⟩
  obtain ⟨Q7, hQ7⟩ : ∃ Q7, Q7 = Mr.cutD R7 none (some 7) := ⟨_, rfl⟩
  have s6 : sliceD (.tup R6) none (some 6) = .ok (.tup Q6) := by rw [hQ6]; rfl
  have s7 : sliceD (.tup R7) none (some 7) = .ok (.tup Q7) := by rw [hQ7]; rfl
  obtain ⟨V3, hV3⟩ : ∃ V3, V3 = [D.tup [G, .tup Q6], .tup [G, .tup Q7], .tup [G, .tup R, .tup R]] := ⟨_, rfl⟩
  have ad4 : addD (.lst U) (.lst V3) = .ok (.lst (U ++ V3)) := add_lstS (by rw [lU, hV3]; simp)
  obtain ⟨F, hF⟩ : ∃ F, F = U ++ V3 := ⟨_, rfl⟩
  rw [← hF] at ad4
  have lF : F.length = 29 := by rw [hF, List.length_append, lU, hV3]; rfl
  obtain ⟨x, x2, hx, e2, b2⟩ := e_pickL (ds := F) b1 (by intro z; rw [z] at lF; cases lF) (by omega) (by omega)
  have q1 := q1_28 (ys := x1) (P := .tup [G, .tup R]) (G := G) (R := R) (r := r) (S := S6) (k := k) (by omega)
  have q2 := q2_28 (ys := x1) (P := .tup [G, .tup R]) (G := G) (R := R) (r := r) (S := S) (C := C) (k := k) (by omega) (by omega) slC (by omega)
  have q3 := q3_28 (ys := x1) (P := .tup [G, .tup R]) (G := G) (R := R) (r := r) (S := S) (T := T1) (k := k)
  rw [← hS5] at q1
  rw [← hT1] at q2
  rw [← hT2] at q3
  refine ⟨x, x2, ?_, ?_, b2.mono (by omega)⟩
  · rw [eS]
    rw [hS6] at q1 ad1
    rw [hU7] at ad3
    rw [hV3] at ad4
    unfold m__law_bent_strand b__law_bent_strand runI
    simp [ng, ixl, lnr, e1, a0, slr, c1, c2, c3, c4, pow20, q1, ad1, q2, q3, ad2, ix0, ad3, m6, m7, s6, s7, ad4, e2, tupD_of, lstD_of, sizeLine_eq]
  · have pr : ∀ {m : Nat}, ∀ y ∈ r, Pk m y := fun {m} y hy => by rw [hr] at hy; exact pk_ints y hy
    have pR : ∀ {m : Nat}, ∀ y ∈ R, Pk (m + 1) y := fun {m} y hy => by
      rw [hR] at hy
      obtain ⟨w, hw, rfl⟩ := List.mem_map.mp hy
      exact Pk.tup (by rw [List.length_map]; have := (hs.row w hw).1; omega) pk_ints
    have pG : ∀ {m : Nat}, Pk m G := fun {m} => by rw [hG]; exact ⟨rfl, by cases m <;> rfl⟩
    have hdG : HdOk G := by rw [hG]; exact hd_sg s.g
    have hdR : HdOk (.tup R) := by rw [hR]; exact hd_lines hs h1 h4
    have pRR : ∀ {m : Nat}, Pk (m + 2) (.tup R) := fun {m} => Pk.tup (by omega) pR
    have pS : ∀ {m : Nat}, ∀ y ∈ S, Pk (m + 1) y := fun {m} y hy => by
      rw [hS] at hy
      rcases List.mem_append.mp hy with hy | hy
      · rw [hS6] at hy
        simp only [List.mem_cons, List.not_mem_nil, or_false] at hy
        rcases hy with rfl | rfl | rfl | rfl | rfl | rfl
        · exact Pk.tup (by simp; omega) fun z hz => (List.mem_append.mp hz).elim (pr z) fun z' => by rw [List.mem_singleton.mp z']; exact ⟨rfl, rfl⟩
        · exact Pk.tup (by omega) fun z hz => pr z (by rw [hDr] at hz; exact cut_mem hz)
        · exact Pk.lst (by omega) pr
        · exact ⟨rfl, rfl⟩
        · exact ⟨rfl, rfl⟩
        · rw [hX0]; exact pk_ch (by omega) pr ⟨rfl, rfl⟩
      · rw [hS5] at hy
        obtain ⟨d, hd, rfl⟩ := List.mem_map.mp hy
        exact pk_ch (by omega) pr (five_pk d hd)
    have pC : ∀ {m : Nat}, ∀ y ∈ C, Pk (m + 1) y := fun {m} y hy => pR y (by rw [hC] at hy; exact cut_mem hy)
    rw [hF] at hx
    rcases List.mem_append.mp hx with hx | hx
    · rw [hU] at hx
      rcases List.mem_append.mp hx with hx | hx
      · rw [hT] at hx
        rcases List.mem_append.mp hx with hx | hx
        · rw [hT1] at hx
          obtain ⟨d, hd, rfl⟩ := List.mem_map.mp hx
          exact it_two pG (Pk.tup (n := 9) (by simp; omega) fun z hz => (List.mem_append.mp hz).elim (pC z) fun z' => by rw [List.mem_singleton.mp z']; exact pS d hd) hdG
        · rw [hT2] at hx
          obtain ⟨d, hd, rfl⟩ := List.mem_map.mp hx
          obtain ⟨k1, k2, k3⟩ := hd_words d hd
          exact it_two ⟨k2, k3⟩ pRR k1
      · rw [hU7] at hx
        simp only [List.mem_cons, List.not_mem_nil, or_false] at hx
        rcases hx with rfl | rfl | rfl | rfl | rfl | rfl | rfl
        · exact it_two pG ⟨rfl, rfl⟩ hdG
        · exact it_two pG (Pk.lst (by omega) pR) hdG
        · exact it_two pG (pR _ mr0) hdG
        · obtain ⟨p1, p2⟩ := Pk.tup (n := 10) (xs := [G]) (by simp) fun z hz => by rw [List.mem_singleton.mp hz]; exact pG
          exact ⟨p1, p2, fun a b e => by injection e with e; simp at e⟩
        · obtain ⟨p1, p2⟩ := Pk.lst (n := 10) (xs := [G, .tup R]) (by simp) fun z hz => by
            simp only [List.mem_cons, List.not_mem_nil, or_false] at hz
            rcases hz with rfl | rfl
            · exact pG
            · exact pRR
          exact ⟨p1, p2, fun a b e => by cases e⟩
        · exact it_two pRR pG hdR
        · exact ⟨rfl, rfl, fun a b e => by cases e⟩
    · rw [hV3] at hx
      simp only [List.mem_cons, List.not_mem_nil, or_false] at hx
      have l6' : R6.length = 6 * R.length := by rw [hR6]; exact rep_len
      have l7' : R7.length = 7 * R.length := by rw [hR7]; exact rep_len
      rcases hx with rfl | rfl | rfl
      · exact it_two pG (Pk.tup (by have := cut_len (xs := R6) (a := none) (b := some 6); rw [← hQ6] at this; omega) fun z hz => pR z (rep_mem (k := 6) (by rw [← hR6]; rw [hQ6] at hz; exact cut_mem hz))) hdG
      · exact it_two pG (Pk.tup (by have := cut_len (xs := R7) (a := none) (b := some 7); rw [← hQ7] at this; omega) fun z hz => pR z (rep_mem (k := 7) (by rw [← hR7]; rw [hQ7] at hz; exact cut_mem hz))) hdG
      · obtain ⟨p1, p2⟩ := Pk.tup (n := 10) (xs := [G, .tup R, .tup R]) (by simp) fun z hz => by
          simp only [List.mem_cons, List.not_mem_nil, or_false] at hz
          rcases hz with rfl | rfl | rfl
          · exact pG
          · exact pRR
          · exact pRR
        exact ⟨p1, p2, fun a b e => by injection e with e; simp at e⟩
end Pm
namespace Pm
open PySem PySem.Spec PyProof.Rows L2 Mr
def Near28 (v : D) : Prop := plD v = true ∧ HdsOk v ∧ ∀ xs, v = .tup xs → okD 12 v = true
theorem near_items {xs : List D} (hl : xs.length ≤ 1000) (h : ∀ x ∈ xs, It28 x) : Near28 (.tup xs) :=
  ⟨pl_tup hl fun x hx => (h x hx).1, fun x hx a b e => (h x hx).2.2 a b e, fun _ _ => okDs_all (n := 11) fun x hx => (h x hx).2.1⟩
theorem okD_sD11 {s : Strand} : okD 12 (sD s) = true := okDs_all (n := 11) fun z hz => by
  simp only [List.mem_cons, List.not_mem_nil, or_false] at hz
  rcases hz with rfl | rfl
  · rfl
  · exact okDs_all (n := 10) fun y hy => by obtain ⟨r, _, rfl⟩ := List.mem_map.mp hy; exact okDs_all (n := 9) fun u hu => by obtain ⟨i, _, rfl⟩ := List.mem_map.mp hu; rfl
theorem near_core {xs x1 x2 : List D} {P : List D} {lot k : Nat} {L12 L13 : List D} {p0 : D} {w : D} {x3 : List D}
    (e1 : m__law_bit (.own true xs) [.int 8] = .ok (.int lot) (.own true x1)) (e2 : m__law_bit (.own true x1) [.int P.length] = .ok (.int k) (.own true x2)) (hlot : ¬ (1 < lot))
    (i0 : ixD (.tup P) (.int 0) = .ok p0) (m12 : mulD (.tup P) (.int 12) = .ok (.tup L12)) (m13 : mulD (.tup P) (.int 13) = .ok (.tup L13))
    (e3 : m__law_pick (.own true x2) [.lst [.tup [], .non, .lst P, p0, .tup (Mr.cutD L12 none (some 12)), .tup (Mr.cutD L13 none (some 13)), .tup P.reverse, .dct [] [], .str (Str.ofString "x"), .tup (Mr.cutD P (some 1) none)]] = .ok w (.own true x3)) :
    m__law_near_k28 (.own true xs) [.tup P] = .ok w (.own true x3) := by
  have ll : lenD [.tup P] = .ok (.int (P.length : Nat)) := rfl
  have c1 : sliceD (.tup L12) none (some 12) = .ok (.tup (Mr.cutD L12 none (some 12))) := rfl
  have c2 : sliceD (.tup L13) none (some 13) = .ok (.tup (Mr.cutD L13 none (some 13))) := rfl
  have c3 : sliceD (.tup P) (some 1) none = .ok (.tup (Mr.cutD P (some 1) none)) := rfl
  have cr : revD (.tup P) = .ok (.tup P.reverse) := rfl
  have cl : listD [.tup P] = .ok (.lst P) := rfl
  obtain ⟨C1, h1⟩ : ∃ C, C = Mr.cutD L12 none (some 12) := ⟨_, rfl⟩
  obtain ⟨C2, h2⟩ : ∃ C, C = Mr.cutD L13 none (some 13) := ⟨_, rfl⟩
  obtain ⟨C3, h3⟩ : ∃ C, C = Mr.cutD P (some 1) none := ⟨_, rfl⟩
  obtain ⟨C4, h4⟩ : ∃ C, C = P.reverse := ⟨_, rfl⟩
  rw [← h1] at c1 e3
  rw [← h2] at c2 e3
  rw [← h3] at c3 e3
  rw [← h4] at cr e3
  obtain ⟨q, hq⟩ : ∃ q : Int, q = (P.length : Int) := ⟨_, rfl⟩
  rw [← hq] at e2
  have ll : lenD [.tup P] = .ok (.int q) := by rw [hq]; exact ll
  have hl : ¬ ((1 : Int) < lot) := by omega
  unfold m__law_near_k28 b__law_near_k28 runI
  simp [e1, ll, e2, hl, i0, m12, m13, c1, c2, c3, cr, cl, e3, tupD_of, lstD_of, sizeLine_eq]
theorem e_near28 {n : Nat} {ss : List Strand} {xs : List D} {b : Nat} (pk : PackOk n ss) (h : Bowl b xs) (hb : b < 700000) :
    ∃ v ys, m__law_near_k28 (.own true xs) [.tup (ss.map sD)] = .ok v (.own true ys) ∧ Near28 v ∧ Bowl (b + 4) ys := by
  have l0 := List.length_pos_iff.mpr pk.ne
  have l12 := pk.le
  obtain ⟨lot, x1, e1, _, b1⟩ := e_bit h (m := 8) (by decide) (by decide) (by omega)
  obtain ⟨k, x2, e2, k2, b2⟩ := e_bit b1 (m := (ss.length : Int)) (by omega) (by omega) (by omega)
  have hk : k < ss.length := by omega
  have items : ∀ x ∈ ss.map sD, It28 x := fun x hx => by
    obtain ⟨s, hs, rfl⟩ := List.mem_map.mp hx
    exact it_sD (pk.ok s hs) pk.h1 pk.h4
  obtain ⟨P, hP⟩ : ∃ P, P = ss.map sD := ⟨_, rfl⟩
  have lP : P.length = ss.length := by rw [hP, List.length_map]
  rw [← hP] at items ⊢
  by_cases hl : 1 < lot
  · obtain ⟨x, x3, e3, ix, b3⟩ := e_bent28 (pk.ok ss[k] (List.getElem_mem hk)) pk.h1 pk.h4 b2 (by omega)
    obtain ⟨c1, c2, c3, c4⟩ := ch_eval (xs := P) (k := k) (d := x) (by omega)
    refine ⟨chX P k x, x3, ?_, near_items (by simp; omega) fun y hy => ?_, b3.mono (by omega)⟩
    · have ixk : ixD (.tup P) (.int (k : Int)) = .ok (sD ss[k]) := ixD_tup (by rw [hP, List.getElem?_map, List.getElem?_eq_getElem hk]; rfl)
      obtain ⟨sk, hsk⟩ : ∃ sk, sk = sD ss[k] := ⟨_, rfl⟩
      rw [← hsk] at e3 ixk
      have ll : lenD [.tup P] = .ok (.int (ss.length : Nat)) := by rw [← lP]; rfl
      obtain ⟨q, hq⟩ : ∃ q : Int, q = (ss.length : Int) := ⟨_, rfl⟩
      rw [← hq] at e2
      have ll : lenD [.tup P] = .ok (.int q) := by rw [hq]; exact ll
      obtain ⟨A, hA⟩ : ∃ A, A = P.take k := ⟨_, rfl⟩
      obtain ⟨B, hB⟩ : ∃ B, B = P.drop (k + 1) := ⟨_, rfl⟩
      rw [← hA] at c1 c2 c4
      rw [← hB] at c3 c4
      obtain ⟨R, hR⟩ : ∃ R, R = chX P k x := ⟨_, rfl⟩
      rw [← hR] at c4 ⊢
      have hl' : (1 : Int) < lot := by omega
      unfold m__law_near_k28 b__law_near_k28 runI
      simp [e1, ll, e2, hl', ixk, e3, c1, c2, c3, c4, tupD_of, sizeLine_eq]
    · rcases List.mem_append.mp hy with hy | hy
      · rcases List.mem_append.mp hy with hy | hy
        · exact items y (List.mem_of_mem_take hy)
        · rw [List.mem_singleton.mp hy]; exact ix
      · exact items y (List.mem_of_mem_drop hy)
  · have neP : P ≠ [] := fun z => by rw [z] at lP; simp at lP; omega
    have m12 := mul_tupS (xs := P) (k := 12) neP (by decide) (by decide) (by omega)
    have m13 := mul_tupS (xs := P) (k := 13) neP (by decide) (by decide) (by omega)
    obtain ⟨L12, h12⟩ : ∃ L, L = (List.replicate 12 P).flatten := ⟨_, rfl⟩
    obtain ⟨L13, h13⟩ : ∃ L, L = (List.replicate 13 P).flatten := ⟨_, rfl⟩
    rw [← h12] at m12
    rw [← h13] at m13
    have n12 : L12.length = 12 * P.length := by rw [h12]; exact rep_len
    have n13 : L13.length = 13 * P.length := by rw [h13]; exact rep_len
    obtain ⟨p0, i0, mp0⟩ : ∃ p0, ixD (.tup P) (.int 0) = .ok p0 ∧ p0 ∈ P := by
      match P, neP with
      | p :: _, _ => exact ⟨p, ixD_tup rfl, List.mem_cons_self ..⟩
    obtain ⟨C1, h1⟩ : ∃ C, C = Mr.cutD L12 none (some 12) := ⟨_, rfl⟩
    obtain ⟨C2, h2⟩ : ∃ C, C = Mr.cutD L13 none (some 13) := ⟨_, rfl⟩
    obtain ⟨C3, h3⟩ : ∃ C, C = Mr.cutD P (some 1) none := ⟨_, rfl⟩
    obtain ⟨w, x3, hw, e3, b3⟩ := e_pickL (ds := [.tup [], .non, .lst P, p0, .tup C1, .tup C2, .tup P.reverse, .dct [] [], .str (Str.ofString "x"), .tup C3]) b2 (by simp) (by simp) (by omega)
    refine ⟨w, x3, near_core e1 (by rw [lP]; exact e2) hl i0 m12 m13 (by rw [← h1, ← h2, ← h3]; exact e3), ?_, b3.mono (by omega)⟩
    have it2 : ∀ {C : List D}, C.length ≤ 200 → (∀ y ∈ C, y ∈ P) → Near28 (.tup C) := fun hl hC => near_items (by omega) fun y hy => items y (hC y hy)
    have cl1 : C1.length ≤ 200 := by have := cut_len (xs := L12) (a := none) (b := some 12); rw [← h1] at this; omega
    have cl2 : C2.length ≤ 200 := by have := cut_len (xs := L13) (a := none) (b := some 13); rw [← h2] at this; omega
    have cl3 : C3.length ≤ 200 := by have := cut_len (xs := P) (a := some 1) (b := none); rw [← h3] at this; omega
    simp only [List.mem_cons, List.not_mem_nil, or_false] at hw
    rcases hw with rfl | rfl | rfl | rfl | rfl | rfl | rfl | rfl | rfl | rfl
    · exact it2 (by simp) (by simp)
    · exact ⟨rfl, trivial, fun _ e => by cases e⟩
    · exact ⟨pl_lst (by omega) fun y hy => (items y hy).1, trivial, fun _ e => by cases e⟩
    · obtain ⟨s, hs, rfl⟩ : ∃ s ∈ ss, w = sD s := by
        rw [hP] at mp0
        obtain ⟨s, hs, e⟩ := List.mem_map.mp mp0
        exact ⟨s, hs, e.symm⟩
      obtain ⟨q1, q2, q3⟩ := items _ mp0
      refine ⟨q1, fun x hx a b e => ?_, fun _ _ => ?_⟩
      · have hx : x ∈ [D.str s.g.s, .tup (s.rows.map rowD)] := hx
        simp only [List.mem_cons, List.not_mem_nil, or_false] at hx
        rcases hx with rfl | rfl
        · cases e
        · injection e with e
          have ma : a ∈ s.rows.map rowD := by rw [e]; simp
          obtain ⟨r, hr, rfl⟩ := List.mem_map.mp ma
          have rr := (pk.ok s hs).row r hr
          exact hd_tup (W := r.length * 1923 + 4) (sh_row fun y hy => (sz_max (rr.2 y hy)).mono (by decide)) (by simp) (by have := rr.1; have := pk.h4; omega)
      · exact okD_sD11
    · exact it2 cl1 fun y hy => rep_mem (k := 12) (by rw [← h12]; rw [h1] at hy; exact cut_mem hy)
    · exact it2 cl2 fun y hy => rep_mem (k := 13) (by rw [← h13]; rw [h2] at hy; exact cut_mem hy)
    · exact it2 (by rw [List.length_reverse]; omega) fun y hy => List.mem_reverse.mp hy
    · exact ⟨rfl, trivial, fun _ e => by cases e⟩
    · exact ⟨rfl, trivial, fun _ e => by cases e⟩
    · exact it2 cl3 fun y hy => by rw [h3] at hy; exact cut_mem hy
theorem ne_any {v w : D} (h1 : okD 12 v = true) (h2 : okD 12 w = true) : ∃ c, neD v w = .ok (.bl c) := by
  have e : neD v w = if okD 12 v = true ∧ okD 12 w = true then .ok (.bl (!eqv v w)) else .stuck := id rfl
  rw [if_pos ⟨h1, h2⟩] at e
  exact ⟨_, e⟩
/-- what is asked of a value -/
theorem asks28 {v : D} (h : Near28 v) : ∃ a : D, m__law_told_k28 [v] = .ok a ∧ neD a a = .ok (.bl false) ∧ ((strandsB v = true ∧ a = v) ∨ (strandsB v = false ∧ a = .str (Str.ofString "none"))) := by
  refine ⟨_, e_told28 h.1, ?_, ?_⟩
  · cases hb : strandsB v with
    | false => exact op_neS (by simp)
    | true =>
      obtain ⟨n, ss, rfl, _⟩ := pk_of hb
      exact op_neS ok_pack
  · cases hb : strandsB v with
    | false => exact .inr ⟨rfl, rfl⟩
    | true => exact .inl ⟨rfl, rfl⟩
theorem test28 {s0 s1 s2 s3 s5 : SV} {P v : D} (h : Near28 v) :
    (xIf (tOf (m2 neD (mCall m__law_told_k28 1 [] (mCons (mVar 6) mNil)) (mIf (tOf (mCall m__law_is_pack 1 [] (mCons (mVar 6) mNil))) (mVar 6) (mC (.str (Str.ofString "none")))))) (xRet (mC (.bl false))) xNx) [s0, s1, s2, s3, .val P, s5, .val v] = .ok .nx [s0, s1, s2, s3, .val P, s5, .val v] := by
  obtain ⟨a, e1, e2, e3⟩ := asks28 h
  have e4 := g_is_pack h.1 h.2.1
  rcases e3 with ⟨hb, rfl⟩ | ⟨hb, ea⟩
  · rw [hb] at e4
    simp [e1, e4, e2]
  · rw [hb] at e4
    rw [ea] at e1 e2
    simp [e1, e4, e2]
def St28 (ns : List Int) (k : Nat) (P : D) (b : Nat) (j : Nat) (ρ : Ro) : Prop := ∃ (s5 s6 : SV) (xs : List D), ρ = [.val (.frz (ns.map .int)), .val (.int k), .un, .own false xs, .val P, s5, s6] ∧ s5.isIo = false ∧ s6.isIo = false ∧ Bowl (b + 8 * j) xs
theorem turn28i {ns : List Int} {k n j b : Nat} {ss : List Strand} {ρ : Ro} (pk : PackOk n ss) (hj : j < 14) (hb : b < 600000) (h : St28 ns k (.tup (ss.map sD)) b j ρ) : ∃ ρ', turnF (.sl 5) y1_law_k28 ρ (.int (j : Nat)) = .ok .nx ρ' ∧ St28 ns k (.tup (ss.map sD)) b (j + 1) ρ' := by
  obtain ⟨s5, s6, xs, rfl, g5, g6, bw⟩ := h
  obtain ⟨v, x1, e1, nv, b1⟩ := e_near28 pk bw (by omega)
  obtain ⟨P, hP⟩ : ∃ P, P = D.tup (ss.map sD) := ⟨_, rfl⟩
  rw [← hP] at e1 ⊢
  have keep : ∀ {ys : List D} {c : Nat} {u : D}, Bowl c ys → c ≤ b + 8 * (j + 1) → St28 ns k P b (j + 1) [.val (.frz (ns.map .int)), .val (.int k), .un, .own false ys, .val P, .val (.int (j : Nat)), .val u] := fun bb hc => ⟨_, _, _, rfl, rfl, rfl, bb.mono hc⟩
  -- the last test
  have last : ∀ {u : D} {ys : List D}, Near28 u → (xIf (tOf (m2 neD (mCall m__law_told_k28 1 [] (mCons (mVar 6) mNil)) (mIf (tOf (mCall m__law_is_pack 1 [] (mCons (mVar 6) mNil))) (mVar 6) (mC (.str (Str.ofString "none")))))) (xRet (mC (.bl false))) xNx) [.val (.frz (ns.map .int)), .val (.int k), .un, .own false ys, .val P, .val (.int (j : Nat)), .val u] = .ok .nx [.val (.frz (ns.map .int)), .val (.int k), .un, .own false ys, .val P, .val (.int (j : Nat)), .val u] := fun hu => test28 hu
  obtain ⟨TT, hTT⟩ : ∃ TT, TT = (xIf (tOf (m2 neD (mCall m__law_told_k28 1 [] (mCons (mVar 6) mNil)) (mIf (tOf (mCall m__law_is_pack 1 [] (mCons (mVar 6) mNil))) (mVar 6) (mC (.str (Str.ofString "none")))))) (xRet (mC (.bl false))) xNx) := ⟨_, rfl⟩
  rw [← hTT] at last
  have yy : y1_law_k28 = (xSeq (xPut (.sl 6) (mIo m__law_near_k28 1 3 (mCons (mVar 4) mNil))) (xSeq (xIf (tAnd (tOf (m2 gtD (mVar 5) (mC (.int 9)))) (tAnd (tOf (mL isiD (mCons (mVar 6) (mCons (mC (.opq (.ty "tuple"))) mNil)))) (tOf (m2 neD (mVar 6) (mL tupD mNil))))) (xPut (.sl 6) (mIf (tOf (mCall m__law_is_pack 1 [] (mCons (mVar 6) mNil))) (mIo m__law_near_k28 1 3 (mCons (mVar 6) mNil)) (mVar 6))) xNx) TT)) := by rw [hTT]; rfl
  have l0 := last nv (ys := x1)
  by_cases h9 : (9 : Int) < j
  · have tt : ∃ r, isiD [v, .opq (.ty "tuple")] = .ok (.bl r) ∧ (r = true → ∃ xs, v = .tup xs) := by
      refine plD_cases (P := fun v => ∃ r, isiD [v, .opq (.ty "tuple")] = .ok (.bl r) ∧ (r = true → ∃ xs, v = .tup xs)) nv.1 ⟨false, rfl, by simp⟩ (fun _ => ⟨false, rfl, by simp⟩) (fun _ => ⟨false, rfl, by simp⟩) (fun _ => ⟨false, rfl, by simp⟩) (fun xs _ _ => ⟨true, rfl, fun _ => ⟨xs, rfl⟩⟩) (fun _ _ _ => ⟨false, rfl, by simp⟩) ⟨false, rfl, by simp⟩
    obtain ⟨r, e2, hr⟩ := tt
    cases r with
    | false =>
      refine ⟨_, ?_, keep b1 (by omega) (u := v)⟩
      rw [yy]
      simp [turnF, g5, g6, e1, h9, e2, l0]
    | true =>
      obtain ⟨vs, hvs⟩ := hr rfl
      have okv := nv.2.2 vs hvs
      obtain ⟨c, e3⟩ := ne_any (v := v) (w := .tup []) okv rfl
      have t0 : tupD [] = .ok (.tup []) := rfl
      cases c with
      | false =>
        refine ⟨_, ?_, keep b1 (by omega) (u := v)⟩
        rw [yy]
        simp [turnF, g5, g6, e1, h9, e2, t0, e3, l0]
      | true =>
        have e4 := g_is_pack nv.1 nv.2.1
        cases hb : strandsB v with
        | false =>
          rw [hb] at e4
          refine ⟨_, ?_, keep b1 (by omega) (u := v)⟩
          rw [yy]
          simp [turnF, g5, g6, e1, h9, e2, t0, e3, e4, l0]
        | true =>
          rw [hb] at e4
          obtain ⟨n2, ss2, ev, pk2⟩ := pk_of hb
          obtain ⟨v2, x2, e5, nv2, b2⟩ := e_near28 pk2 b1 (by omega)
          rw [← ev] at e5
          have l2 := last nv2 (ys := x2)
          refine ⟨_, ?_, keep b2 (by omega) (u := v2)⟩
          rw [yy]
          simp [turnF, g5, g6, e1, h9, e2, t0, e3, e4, e5, l2]
  · refine ⟨_, ?_, keep b1 (by omega) (u := v)⟩
    rw [yy]
    simp [turnF, g5, g6, e1, h9, l0]
def So28 (ns : List Int) (_ : Nat) (ρ : Ro) : Prop := ∃ (v1 v3 v4 v5 v6 : SV), ρ = [.val (.frz (ns.map .int)), v1, .un, v3, v4, v5, v6] ∧ v1.isIo = false ∧ v3.isIo = false ∧ v4.isIo = false ∧ v5.isIo = false ∧ v6.isIo = false
theorem turn28 {ns : List Int} {k : Nat} {ρ : Ro} (hk : k < 64) (h : So28 ns k ρ) : ∃ ρ', turnF (.sl 1) y2_law_k28 ρ (.int (k : Nat)) = .ok .nx ρ' ∧ So28 ns (k + 1) ρ' := by
  obtain ⟨v1, v3, v4, v5, v6, rfl, h1, h3, h4, h5, h6⟩ := h
  obtain ⟨xs, e0, b0⟩ := e_bowl (ns := ns) hk
  obtain ⟨j, x1, e1, j1, b1⟩ := e_bit b0 (m := 4) (by decide) (by decide) (by omega)
  obtain ⟨n, hn, n1, n4⟩ : ∃ n : Nat, (n : Int) = 1 + (j : Int) ∧ 1 ≤ n ∧ n ≤ 4 := ⟨1 + j, by omega, by omega, by omega⟩
  obtain ⟨ss, x2, e2, ne, sl, dr, b2⟩ := e_pack (n := n) (m := 5) b1 n1 n4 (by decide) (by decide) (by omega)
  rw [hn] at e2
  have e2 : m__law_pack (.own true x1) [.int (1 + (j : Int)), .int 5] = .ok (.tup (ss.map sD)) (.own true x2) := e2
  have pk : PackOk n ss := ⟨n1, n4, ne, by omega, fun z hz => (dr z hz).ok (by decide) (by decide)⟩
  have e3 := e_told28 (d := .tup (ss.map sD)) (pl_tup (by have := pk.le; simp; omega) fun x hx => by
    obtain ⟨s, hs, rfl⟩ := List.mem_map.mp hx
    exact pl_sD (pk.ok s hs) pk.h4)
  rw [strands_pk pk, if_pos rfl] at e3
  have e4 : neD (.tup (ss.map sD)) (.tup (ss.map sD)) = .ok (.bl false) := op_neS ok_pack
  obtain ⟨ρ', f, w5, w6, ys, rfl, g5, g6, _⟩ := forM_range (t := .sl 5) (body := y1_law_k28) (I := St28 ns k (.tup (ss.map sD)) 2000) 14 [.val (.frz (ns.map .int)), .val (.int (k : Nat)), .un, .own false x2, .val (.tup (ss.map sD)), v5, v6]
    ⟨_, _, _, rfl, h5, h6, b2.mono (by omega)⟩ fun j ρ hj hI => turn28i pk hj (by decide) hI
  have rn : range1D [.int 14] = .ok ((List.range 14).map fun (k : Nat) => D.int k) := rangeN 14 (by decide)
  obtain ⟨L, hL⟩ : ∃ L, L = (List.range 14).map fun (k : Nat) => D.int k := ⟨_, rfl⟩
  rw [← hL] at f rn
  obtain ⟨P, hP⟩ : ∃ P, P = D.tup (ss.map sD) := ⟨_, rfl⟩
  rw [← hP] at e2 e3 e4 f
  refine ⟨[.val (.frz (ns.map .int)), .val (.int (k : Nat)), .un, .own false ys, .val P, w5, w6], ?_, _, _, _, _, _, rfl, rfl, rfl, rfl, g5, g6⟩
  simp [turnF, y2_law_k28, f1_law_k28, h1, h3, h4, e0, e1, e2, e3, e4, rn, f]
noncomputable def T28 : M Fl := (xSeq (xPut (.sl 2) (mMake "System" m_System___init__ 1 [] (mCons (m2 mulD (mL tupD (mCons (mL tupD (mCons (mC (.str (Str.ofString "more"))) (mCons (mL tupD (mCons (mL tupD (mCons (mC (.int 1)) mNil)) mNil)) mNil))) mNil)) (mC (.int 12))) mNil)))
  (xSeq (xTry (xDrop (mMeth [(Str.ofString "System", m_System_with_strand)] (Str.ofString "with_strand") 3 (mVar 2) (mCons (mC (.str (Str.ofString "null"))) (mCons (mL tupD (mCons (mL tupD (mCons (mC (.int 0)) mNil)) mNil)) mNil)))) [⟨[(Str.ofString "InvalidNumber", false), (Str.ofString "InvalidSystem", true)], none, fun y => (xRet (m2 eqD (mL (lenW "System" m_System___len__) (mCons (mMeth [(Str.ofString "System", m_System_without_strand_h)] (Str.ofString "without_strand") 2 (mVar 2) (mCons (mC (.int 3)) mNil)) mNil)) (mC (.int 11))))⟩])
  (xRet (mC (.bl false)))))
noncomputable def roOf : R Fl → Ro
  | .ok _ ρ => ρ
  | _ => []
theorem tail28 {s0 s1 s3 s4 s5 s6 : SV} : T28 [s0, s1, .un, s3, s4, s5, s6] = .ok (.rt (.bl true)) (roOf (T28 [s0, s1, .un, s3, s4, s5, s6])) := by
  kernel_rfl
theorem runF_rtX {n : Nat} {g : M Fl} {ds : List D} {d : D} {ρ : Ro} (h : g (ds.map SV.val ++ List.replicate (n - ds.length) SV.un) = .ok (.rt d) ρ) : runF n g ds = .ok d := by
  unfold runF; rw [h]
theorem seq_rtX {a b : M Fl} {ρ ρ1 ρ2 : Ro} {d : D} (h : a ρ = .ok .nx ρ1) (h2 : b ρ1 = .ok (.rt d) ρ2) : xSeq a b ρ = .ok (.rt d) ρ2 := by
  rw [ap_Seq, h]
  exact h2
theorem plain28 (ns : List Int) (hl : ns.length ≤ 63) : m_law_k28 [.frz (ns.map .int)] = .ok (.bl true) := by
  obtain ⟨N, hN, N8⟩ := rounds_of ns.length 8 (by decide)
  obtain ⟨ρ', f, v1, v3, v4, v5, v6, rfl, _, _, _, _, _⟩ := forM_range (t := .sl 1) (body := y2_law_k28) (I := So28 ns) N [.val (.frz (ns.map .int)), .un, .un, .un, .un, .un, .un] ⟨_, _, _, _, _, rfl, rfl, rfl, rfl, rfl, rfl⟩ fun k ρ hk hI => turn28 (k := k) (by omega) hI
  have rn := rangeN N (by omega)
  obtain ⟨L, hL⟩ : ∃ L, L = (List.range N).map fun (k : Nat) => D.int k := ⟨_, rfl⟩
  rw [← hL] at f rn
  simp at hN
  have e2 : f2_law_k28 [.val (.frz (ns.map .int)), .un, .un, .un, .un, .un, .un] = .ok .nx [.val (.frz (ns.map .int)), v1, .un, v3, v4, v5, v6] := by
    unfold f2_law_k28
    simp only [ap_For]
    simp [hN, rn]
    rw [f]
  exact runF_rtX (g := b_law_k28) (n := 7) (seq_rtX (a := f2_law_k28) (b := T28) e2 tail28)
end Pm
open PySem PySem.W PySem.Calls PyProof.Rows
theorem PySem.Challenge.cw_staystarts_k28_whole_systems_by_their_ru_holds : PySem.Challenge.rw_staystarts_k28_whole_systems_by_their_ru.Holds := by
  exact K28.holds fun ns hl _ => Pm.plain28 ns hl
